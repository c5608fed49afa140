import PyProof.Rows.All
import Wide.All
import OpenK.AllK
import Wide.FinOn
import HandS.ForMost
import HandS.Wide
import HandS.Zip
import HandS.TupAny
import HandS.TupMul
import HandS.Exc
import PyProof.ListMulRoad
import PyProof.FactsAll.tuple_2
import HandS.TupLe
import HandS.Deep
import HandS.Style
import PyProof.Draws
import KE.GoesMore
import KE.GoesZip
import PyProof.EnumMake
import HandS.IsInst
import HandS.FltList
import HandS.WideBits
import HandS.ExcInit
import HandS.TryOnly
import HandS.ExcField
import KE.KExcIs
import HandS.NoneIn
import HandS.Conv
import HandS.NamedTupSort
import KE.KTupSum
import HandS.Text
import HandS.TupSets
import KE.KDictCopyH
import KE.KDictSum
import HandS.SetFor
import PyProof.Rows.IntBool
import PyProof.CallStr
import PyProof.Rows.StrSplitCount
import PyProof.Rows.ReprOcc
import PyProof.ReprText
import PySem.Challenge.RW_freshparts_k71_texts_that_write_no_life
set_option Elab.async false
set_option linter.all false
set_option maxRecDepth 100000
set_option exponentiation.threshold 10000
section
set_option maxHeartbeats 4000000
namespace Dn
open PySem PySem.Spec L2
/-- the state of the one drawing feed -/
structure Feed where
  cells : List Int
  spot : Int
  left : Int
  turn : Int
inductive R (α : Type) where
  | no : R α
  | ok (a : α) (f : Feed) : R α
  | ex (c : Str) (vs : List (Str × PyData)) (f : Feed) : R α
def R.bind {α β : Type} (r : R α) (k : α → Feed → R β) : R β := match r with
  | .no => .no
  | .ok a f => k a f
  | .ex c vs f => .ex c vs f
/-- a dict that grows: its keys are whole numbers, or tuples of these -/
inductive Dk where
  | I (kvs : List (Int × PyData))
  | T (kvs : List (List Int × PyData))
inductive Slot where
  | emp
  | dat (d : PyData)
  | own (ds : List PyData)
  | feed
  | scr (ns : List Int)
  | dct (k : Dk)
  | key (ks : List Int)
  | brd (dss : List (List PyData))
inductive RV where
  | dat (d : PyData)
  | own (ds : List PyData)
  | lent (i : Nat) (ds : List PyData)
  | feed
def RV.peek : RV → Option PyData
  | .dat d => some d
  | .own ds => some (.list ds)
  | .lent _ ds => some (.list ds)
  | .feed => none
def RV.data : RV → Option PyData
  | .dat d => some d
  | .own ds => some (.list ds)
  | _ => none
abbrev Rho := List Slot
abbrev Ex := Rho → Feed → R RV
inductive Ctl where
  | nx (p : Rho)
  | rt (v : RV)
  | bk (p : Rho)
  | ct (p : Rho)
abbrev Sm := Rho → Feed → R Ctl
def ExH (a C : Addr) (od : Option Addr) : HO := .ext fun h => ∃ oe vs, h.get? a = some oe ∧ Zc (.ref C) od oe ∧ oe.data = .fields vs
def errNm (K : PySem.W.Frag) (C : Addr) : Option Str := (PySem.W.clsIn K C).map (·.name)
def XdH (H : Hp) (od : Option Addr) (xs : List (Str × V)) : Prop := (od = none ∧ xs = []) ∨ ∃ d, od = some d ∧ H d = some (.xd xs)
def fldD (xs : List (Str × V)) (ds : List PyData) : List (PyData × PyData) := List.zipWith (fun x d => (.str x.1, d)) xs ds
def keyD : Key → PyData
  | .inl i => .int i
  | .inr x => .str x
mutual
inductive DR (K : PySem.W.Frag) (H : Hp) : V → PyData → Prop
  | non : DR K H .non .none
  | bl (b : Bool) : DR K H (.bl b) (.bool b)
  | int (i : Int) : DR K H (.int i) (.int i)
  | str (x : Str) : DR K H (.str x) (.str x)
  | lst {a : Addr} {xs : List V} {ds : List PyData} : H a = some (.lst xs) → DRs K H xs ds → DR K H (.ref a) (.list ds)
  | tup {a : Addr} {xs : List V} {ds : List PyData} : SqT K H a xs → DRs K H xs ds → DR K H (.ref a) (.tuple ds)
  | dic {a : Addr} {xs : List (Key × V)} {ks : List (PyData × PyData)} : H a = some (.dK xs) → ks.map (·.1) = xs.map (fun x => keyD x.1) → DRs K H (xs.map (·.2)) (ks.map (·.2)) → DR K H (.ref a) (.dict ks)
  | exc {a C : Addr} {od : Option Addr} {c : Str} {xs : List (Str × V)} {ds : List PyData} : H a = some (ExH a C od) → errNm K C = some c → XdH H od xs → DRs K H (xs.map (·.2)) ds → DR K H (.ref a) (.dict ((.none, .str c) :: fldD xs ds))
  | dit {a : Addr} {xs : List (List Key × V)} {kvs : List (List Int × PyData)} : H a = some (.dT xs) → xs.map (·.1) = kvs.map (fun q => q.1.map Sum.inl) → DRs K H (xs.map (·.2)) (kvs.map (·.2)) → DR K H (.ref a) (.dict ((.bool true, .none) :: kvs.map fun q => (.tuple (q.1.map .int), q.2)))
inductive DRs (K : PySem.W.Frag) (H : Hp) : List V → List PyData → Prop
  | nil : DRs K H [] []
  | cons {v : V} {vs : List V} {d : PyData} {ds : List PyData} : DR K H v d → DRs K H vs ds → DRs K H (v :: vs) (d :: ds)
end
def Le (H G : Hp) : Prop := ∀ a o, H a = some o → G a = some o
theorem Le.refl (H : Hp) : Le H H := fun _ _ h => h
theorem Le.trans {H G F : Hp} (a : Le H G) (b : Le G F) : Le H F := fun x o h => b x o (a x o h)
theorem XdH.mono {H G : Hp} (l : Le H G) {od : Option Addr} {xs : List (Str × V)} (h : XdH H od xs) : XdH G od xs := by
  rcases h with ⟨e1, e2⟩ | ⟨d, e1, e2⟩
  · exact .inl ⟨e1, e2⟩
  · exact .inr ⟨d, e1, l _ _ e2⟩
theorem Le.sqL {K : PySem.W.Frag} {H G : Hp} {a : Addr} {xs : List V} (l : Le H G) (h : SqL K H a xs) : SqL K G a xs := by
  rcases h with (h | ⟨o, h⟩) | h
  · exact .inl (.inl (l _ _ h))
  · exact .inl (.inr ⟨o, l _ _ h⟩)
  · exact .inr h
theorem Le.sqT {K : PySem.W.Frag} {H G : Hp} {a : Addr} {xs : List V} (l : Le H G) (h : SqT K H a xs) : SqT K G a xs := by
  rcases h with (h | ⟨o, h⟩) | h
  · exact .inl (.inl (l _ _ h))
  · exact .inl (.inr ⟨o, l _ _ h⟩)
  · exact .inr h
mutual
theorem DR.mono {K : PySem.W.Frag} {H G : Hp} (l : Le H G) : ∀ {v : V} {d : PyData}, DR K H v d → DR K G v d
  | _, _, .non => .non
  | _, _, .bl b => .bl b
  | _, _, .int i => .int i
  | _, _, .str x => .str x
  | _, _, .lst h r => .lst (l _ _ h) (DRs.mono l r)
  | _, _, .tup h r => .tup (l.sqT h) (DRs.mono l r)
  | _, _, .dic h e r => .dic (l _ _ h) e (DRs.mono l r)
  | _, _, .exc h1 h2 h3 h4 => .exc (l _ _ h1) h2 (h3.mono l) (DRs.mono l h4)
  | _, _, .dit h e r => .dit (l _ _ h) e (DRs.mono l r)
theorem DRs.mono {K : PySem.W.Frag} {H G : Hp} (l : Le H G) : ∀ {vs : List V} {ds : List PyData}, DRs K H vs ds → DRs K G vs ds
  | _, _, .nil => .nil
  | _, _, .cons h r => .cons (DR.mono l h) (DRs.mono l r)
end
section
variable {K : PySem.W.Frag} {H : Hp}
theorem DRs.length : ∀ {vs : List V} {ds : List PyData}, DRs K H vs ds → vs.length = ds.length
  | _, _, .nil => rfl
  | _, _, .cons _ r => congrArg (· + 1) r.length
theorem DRs.get : ∀ {vs : List V} {ds : List PyData} {i : Nat} {d : PyData}, DRs K H vs ds → ds[i]? = some d → ∃ v, vs[i]? = some v ∧ DR K H v d
  | _, _, _, _, .nil, e => by simp at e
  | _, _, 0, d, .cons h _, e => by
    simp at e
    subst e
    exact ⟨_, rfl, h⟩
  | _, _, i + 1, d, .cons _ r, e => by
    obtain ⟨v, h1, h2⟩ := DRs.get (i := i) (d := d) r (by simpa using e)
    exact ⟨v, by simpa using h1, h2⟩
theorem DRs.append : ∀ {vs ws : List V} {ds es : List PyData}, DRs K H vs ds → DRs K H ws es → DRs K H (vs ++ ws) (ds ++ es)
  | _, _, _, _, .nil, s => s
  | _, _, _, _, .cons h r, s => .cons h (DRs.append r s)
theorem DRs.snoc {vs : List V} {v : V} {ds : List PyData} {d : PyData} (r : DRs K H vs ds) (h : DR K H v d) : DRs K H (vs ++ [v]) (ds ++ [d]) := r.append (.cons h .nil)
theorem DRs.drop : ∀ {vs : List V} {ds : List PyData} (n : Nat), DRs K H vs ds → DRs K H (vs.drop n) (ds.drop n)
  | _, _, 0, r => r
  | _, _, _ + 1, .nil => .nil
  | _, _, n + 1, .cons _ r => DRs.drop n r
theorem DRs.take : ∀ {vs : List V} {ds : List PyData} (n : Nat), DRs K H vs ds → DRs K H (vs.take n) (ds.take n)
  | _, _, 0, _ => .nil
  | _, _, _ + 1, .nil => .nil
  | _, _, n + 1, .cons h r => .cons h (DRs.take n r)
theorem DRs.set : ∀ {vs : List V} {ds : List PyData} {v : V} {d : PyData} (n : Nat), DRs K H vs ds → DR K H v d → DRs K H (vs.set n v) (ds.set n d)
  | _, _, _, _, _, .nil, _ => .nil
  | _, _, _, _, 0, .cons _ r, h => .cons h r
  | _, _, _, _, n + 1, .cons g r, h => .cons g (DRs.set n r h)
theorem DRs.rep {vs : List V} {ds : List PyData} (r : DRs K H vs ds) : ∀ n : Nat, DRs K H (List.replicate n vs).flatten (List.replicate n ds).flatten
  | 0 => .nil
  | n + 1 => by
    rw [List.replicate_succ, List.replicate_succ, List.flatten_cons, List.flatten_cons]
    exact r.append (r.rep n)
theorem DRs.ints : ∀ ns : List Int, DRs K H (ns.map V.int) (ns.map PyData.int)
  | [] => .nil
  | n :: r => .cons (.int n) (DRs.ints r)
theorem DRs.rev : ∀ {vs : List V} {ds : List PyData}, DRs K H vs ds → DRs K H vs.reverse ds.reverse
  | _, _, .nil => .nil
  | _, _, .cons h r => by
    rw [List.reverse_cons, List.reverse_cons]
    exact (DRs.rev r).snoc h
end
structure Gh where
  fa : Addr
  ca : Addr
  H0 : Hp
  HF0 : Hp
def feedO (g : Gh) (f : Feed) : HO := .dK [(Sum.inr "cells", .ref g.ca), (Sum.inr "at", .int f.spot), (Sum.inr "left", .int f.left), (Sum.inr "turn", .int f.turn)]
structure FeedAt (g : Gh) (H HF : Hp) (f : Feed) : Prop where
  d : H g.fa = some (feedO g f)
  nf : HF g.fa = none
  c : HF g.ca = some (.lst (f.cells.map V.int))
/-- no tuple -/
def ntu : HO → Bool
  | .tup _ => false
  | _ => true
/-- something that is there and no tuple -/
def Mo (H : Hp) (a : Addr) : Prop := ∃ o, H a = some o ∧ ntu o = true
theorem mo {H : Hp} {a : Addr} {o : HO} (e : H a = some o) (h : ntu o = true := by rfl) : Mo H a := ⟨o, e, h⟩
theorem Mo.some {H : Hp} {a : Addr} (h : Mo H a) : H a ≠ none := by
  obtain ⟨o, e, _⟩ := h
  rw [e]
  exact Option.some_ne_none _
structure Step (g : Gh) (H HF G GF : Hp) : Prop where
  ext : ∀ a o, a ≠ g.fa → H a = some o → G a = some o
  le : Le HF GF
  new : ∀ a, Mo H a → HF a = none → GF a = none
  sub : Le GF G
theorem Step.refl {g : Gh} {H HF : Hp} (s : Le HF H) : Step g H HF H HF := ⟨fun _ _ _ h => h, Le.refl _, fun _ _ h => h, s⟩
theorem FeedAt.ne {g : Gh} {H HF : Hp} {f : Feed} (h : FeedAt g H HF f) : H g.fa ≠ none := by
  rw [h.d]
  exact Option.some_ne_none _
theorem Step.live {g : Gh} {H HF G GF : Hp} {f : Feed} (s : Step g H HF G GF) (h : FeedAt g G GF f) {a : Addr} (e : H a ≠ none) : G a ≠ none := by
  by_cases q : a = g.fa
  · rw [q]
    exact h.ne
  · cases r : H a with
    | none => exact absurd r e
    | some o =>
      rw [s.ext a o q r]
      exact Option.some_ne_none _
theorem Step.liveM {g : Gh} {H HF G GF : Hp} {f : Feed} (s : Step g H HF G GF) (h : FeedAt g G GF f) {a : Addr} (e : Mo H a) : Mo G a := by
  by_cases q : a = g.fa
  · rw [q]
    exact mo h.d
  · obtain ⟨o, e1, e2⟩ := e
    exact ⟨o, s.ext a o q e1, e2⟩
theorem Step.dead {g : Gh} {H HF G GF : Hp} {f : Feed} (s : Step g H HF G GF) (h : FeedAt g G GF f) {a : Addr} (e : G a = none) : H a = none := by
  cases r : H a with
  | none => rfl
  | some o => exact absurd e (s.live h (by rw [r]; exact Option.some_ne_none _))
theorem Step.trans {g : Gh} {H HF G GF I IF : Hp} {f : Feed} (a : Step g H HF G GF) (h : FeedAt g G GF f) (b : Step g G GF I IF) : Step g H HF I IF :=
  ⟨fun x o q e => b.ext x o q (a.ext x o q e), a.le.trans b.le, fun x e q => b.new x (a.liveM h e) (a.new x e q), b.sub⟩
/-- a sequence or a datum that may be read now -/
def Top (K : PySem.W.Frag) (g : Gh) (H HF : Hp) (v : V) (d : PyData) : Prop :=
  DR K HF v d ∨ ∃ p vs ds, v = .ref p ∧ d = .list ds ∧ p ≠ g.fa ∧ H p = some (.lst vs) ∧ DRs K HF vs ds
theorem Top.step {K : PySem.W.Frag} {g : Gh} {H HF G GF : Hp} {v : V} {d : PyData} (t : Top K g H HF v d) (s : Step g H HF G GF) : Top K g G GF v d := by
  rcases t with h | ⟨p, vs, ds, e1, e2, e3, e4, e5⟩
  · exact .inl (h.mono s.le)
  · exact .inr ⟨p, vs, ds, e1, e2, e3, s.ext _ _ e3 e4, e5.mono s.le⟩
/-- a growing dict at an address -/
def DkAt (K : PySem.W.Frag) (H HF : Hp) (p : Addr) : Dk → Prop
  | .I kvs => ∃ xs : List (Key × V), H p = some (.dK xs) ∧ Paired (fun x q => x.1 = Sum.inl q.1 ∧ DR K HF x.2 q.2) xs kvs
  | .T kvs => ∃ xs : List (List Key × V), H p = some (.dT xs) ∧ Paired (fun x q => x.1 = q.1.map Sum.inl ∧ DR K HF x.2 q.2) xs kvs
theorem paired_imp {α β : Type} {F G : α → β → Prop} (h : ∀ a b, F a b → G a b) : ∀ {as : List α} {bs : List β}, Paired F as bs → Paired G as bs
  | _, _, .nil => .nil
  | _, _, .cons x r => .cons (h _ _ x) (paired_imp h r)
theorem DkAt.mono {K : PySem.W.Frag} {H HF G GF : Hp} {p : Addr} {k : Dk} (h : DkAt K H HF p k) (e : ∀ o, H p = some o → G p = some o) (l : Le HF GF) : DkAt K G GF p k := by
  cases k with
  | I kvs =>
    obtain ⟨xs, h1, h2⟩ := h
    exact ⟨xs, e _ h1, paired_imp (fun _ _ z => ⟨z.1, z.2.mono l⟩) h2⟩
  | T kvs =>
    obtain ⟨xs, h1, h2⟩ := h
    exact ⟨xs, e _ h1, paired_imp (fun _ _ z => ⟨z.1, z.2.mono l⟩) h2⟩
theorem DkAt.ne {K : PySem.W.Frag} {g : Gh} {H HF HF2 : Hp} {f : Feed} {p : Addr} {k : Dk} (h : DkAt K H HF p k) (r : FeedAt g H HF2 f) : p ≠ g.fa := fun q => by
  subst q
  cases k with
  | I kvs =>
    obtain ⟨xs, h1, h2⟩ := h
    have z := r.d.symm.trans h1
    unfold feedO at z
    injection z with z
    injection z with z
    subst z
    cases h2 with
    | cons a b => cases a.1
  | T kvs =>
    obtain ⟨xs, h1, h2⟩ := h
    have z := r.d.symm.trans h1
    unfold feedO at z
    cases z
theorem DkAt.nl {K : PySem.W.Frag} {H HF : Hp} {p : Addr} {k : Dk} (h : DkAt K H HF p k) {vs : List V} : H p ≠ some (.lst vs) := fun e => by
  cases k with
  | I kvs =>
    obtain ⟨xs, h1, h2⟩ := h
    rw [e] at h1
    cases h1
  | T kvs =>
    obtain ⟨xs, h1, h2⟩ := h
    rw [e] at h1
    cases h1
theorem DkAt.mo {K : PySem.W.Frag} {H HF : Hp} {p : Addr} {k : Dk} (h : DkAt K H HF p k) : Mo H p := by
  cases k with
  | I kvs =>
    obtain ⟨xs, h1, h2⟩ := h
    exact Dn.mo h1
  | T kvs =>
    obtain ⟨xs, h1, h2⟩ := h
    exact Dn.mo h1
theorem DkAt.some {K : PySem.W.Frag} {H HF : Hp} {p : Addr} {k : Dk} (h : DkAt K H HF p k) : H p ≠ none := fun e => by
  cases k with
  | I kvs =>
    obtain ⟨xs, h1, h2⟩ := h
    rw [e] at h1
    cases h1
  | T kvs =>
    obtain ⟨xs, h1, h2⟩ := h
    rw [e] at h1
    cases h1
/-- a board: a list of lists that one name alone holds -/
def BdAt (K : PySem.W.Frag) (g : Gh) (H HF : Hp) (p : Addr) (qs : List Addr) (dss : List (List PyData)) : Prop :=
  H p = some (.lst (qs.map V.ref)) ∧ (p :: qs).Nodup ∧ (∀ q ∈ p :: qs, g.H0 q = none ∧ HF q = none) ∧ Paired (fun q ds => ∃ vs, H q = some (.lst vs) ∧ DRs K HF vs ds) qs dss
theorem refs_inj : ∀ {ps qs : List Addr}, ps.map V.ref = qs.map V.ref → ps = qs
  | [], [], _ => rfl
  | [], _ :: _, h => by cases h
  | _ :: _, [], h => by cases h
  | p :: ps, q :: qs, h => by
    rw [List.map_cons, List.map_cons] at h
    injection h with h1 h2
    injection h1 with h1
    rw [h1, refs_inj h2]
theorem paired_left {α β : Type} {F : α → β → Prop} {a : α} : ∀ {as : List α} {bs : List β}, Paired F as bs → a ∈ as → ∃ b, F a b
  | _, _, .cons x _, .head _ => ⟨_, x⟩
  | _, _, .cons _ r, .tail _ m => paired_left r m
theorem paired_impM {α β : Type} {F G : α → β → Prop} : ∀ {as : List α} {bs : List β}, (∀ a ∈ as, ∀ b, F a b → G a b) → Paired F as bs → Paired G as bs
  | _, _, _, .nil => .nil
  | _, _, h, .cons x r => .cons (h _ List.mem_cons_self _ x) (paired_impM (fun a m b z => h a (List.mem_cons_of_mem _ m) b z) r)
theorem BdAt.live {K : PySem.W.Frag} {g : Gh} {H HF : Hp} {p : Addr} {qs : List Addr} {dss : List (List PyData)} (h : BdAt K g H HF p qs dss) {q : Addr} (m : q ∈ p :: qs) : ∃ vs, H q = some (.lst vs) := by
  obtain ⟨h1, h2, h3, h4⟩ := h
  rcases List.mem_cons.mp m with rfl | m
  · exact ⟨_, h1⟩
  · obtain ⟨b, vs, z, _⟩ := paired_left h4 m
    exact ⟨vs, z⟩
theorem BdAt.keep {K : PySem.W.Frag} {g : Gh} {H HF G GF : Hp} {p : Addr} {qs : List Addr} {dss : List (List PyData)} (h : BdAt K g H HF p qs dss) (e : ∀ q ∈ p :: qs, G q = H q) (n : ∀ q ∈ p :: qs, GF q = none) (l : Le HF GF) : BdAt K g G GF p qs dss := by
  obtain ⟨h1, h2, h3, h4⟩ := h
  refine ⟨by rw [e p List.mem_cons_self]; exact h1, h2, fun q m => ⟨(h3 q m).1, n q m⟩, paired_impM (fun q m ds z => ?_) h4⟩
  obtain ⟨vs, z1, z2⟩ := z
  exact ⟨vs, by rw [e q (List.mem_cons_of_mem _ m)]; exact z1, z2.mono l⟩
theorem BdAt.rows {K : PySem.W.Frag} {g : Gh} {H HF : Hp} {p : Addr} {qs ps : List Addr} {dss : List (List PyData)} (h : BdAt K g H HF p qs dss) (e : H p = some (.lst (ps.map V.ref))) : ps = qs := by
  have := h.1
  rw [e] at this
  injection this with this
  injection this with this
  exact refs_inj this
theorem BdAt.step {K : PySem.W.Frag} {g : Gh} {H HF HF2 G GF : Hp} {f : Feed} {p : Addr} {qs : List Addr} {dss : List (List PyData)} (h : BdAt K g H HF p qs dss) (r : FeedAt g H HF2 f) (s : Step g H HF G GF) : BdAt K g G GF p qs dss := by
  have k : ∀ q ∈ p :: qs, G q = H q ∧ GF q = none := fun q m => by
    obtain ⟨vs, z⟩ := h.live m
    refine ⟨?_, s.new q (mo z) (h.2.2.1 q m).2⟩
    rw [z]
    refine s.ext q _ (fun w => ?_) z
    rw [w, r.d] at z
    cases z
  exact h.keep (fun q m => (k q m).1) (fun q m => (k q m).2) s.le
theorem BdAt.upd {K : PySem.W.Frag} {g : Gh} {H HF : Hp} {p a : Addr} {o : HO} {qs : List Addr} {dss : List (List PyData)} (h : BdAt K g H HF p qs dss) (n : a ∉ p :: qs) : BdAt K g (upd H a o) HF p qs dss :=
  h.keep (fun q m => upd_ne (fun z => n (by rw [← z]; exact m))) (fun q m => (h.2.2.1 q m).2) (Le.refl _)
/-- at most one board, and no other name holds a row of it -/
def BdSep (σ : St) (H : Hp) (ρ : Rho) : Prop :=
  (∀ (i j : Nat) (a b : List (List PyData)), ρ[i]? = some (.brd a) → ρ[j]? = some (.brd b) → i = j) ∧
  ∀ (i j : Nat) (dss : List (List PyData)) (ds : List PyData) (p a : Addr) (qs : List Addr), ρ[i]? = some (.brd dss) → ρ[j]? = some (.own ds) → σ[i]? = some (some (.ref p)) → σ[j]? = some (some (.ref a)) → H p = some (.lst (qs.map V.ref)) → a ∉ p :: qs
theorem BdSep.to {σ τ : St} {H G : Hp} {ρ ϱ : Rho} (b : BdSep σ H ρ) (h1 : ∀ (i : Nat) dss, ϱ[i]? = some (.brd dss) → (∃ d2, ρ[i]? = some (.brd d2)) ∧ τ[i]? = σ[i]?) (h2 : ∀ (j : Nat) ds, ϱ[j]? = some (.own ds) → (∃ d2, ρ[j]? = some (.own d2)) ∧ τ[j]? = σ[j]?)
    (h3 : ∀ (i : Nat) dss (p : Addr) (qs : List Addr), ρ[i]? = some (.brd dss) → σ[i]? = some (some (.ref p)) → G p = some (.lst (qs.map V.ref)) → H p = some (.lst (qs.map V.ref))) : BdSep τ G ϱ := by
  refine ⟨fun i j x y e1 e2 => ?_, fun i j dss ds p a qs e1 e2 e3 e4 e5 => ?_⟩
  · obtain ⟨⟨x2, z1⟩, _⟩ := h1 i x e1
    obtain ⟨⟨y2, z2⟩, _⟩ := h1 j y e2
    exact b.1 i j x2 y2 z1 z2
  · obtain ⟨⟨x2, z1⟩, w1⟩ := h1 i dss e1
    obtain ⟨⟨y2, z2⟩, w2⟩ := h2 j ds e2
    rw [w1] at e3
    rw [w2] at e4
    exact b.2 i j x2 y2 p a qs z1 z2 e3 e4 (h3 i x2 p qs z1 e3 e5)
theorem BdSep.noBd {σ : St} {H : Hp} {ρ : Rho} (h : ∀ (i : Nat) dss, ρ[i]? ≠ some (.brd dss)) : BdSep σ H ρ := ⟨fun i _ a _ e _ => absurd e (h i a), fun i _ dss _ _ _ _ e _ _ _ _ => absurd e (h i dss)⟩
def SlotOk (K : PySem.W.Frag) (g : Gh) (H HF : Hp) (x : Option (Option V)) : Slot → Prop
  | .emp => True
  | .dat d => ∃ v, x = some (some v) ∧ DR K HF v d
  | .own ds => ∃ p vs, x = some (some (.ref p)) ∧ g.H0 p = none ∧ HF p = none ∧ H p = some (.lst vs) ∧ DRs K HF vs ds
  | .feed => x = some (some (.ref g.fa))
  | .scr ns => ∃ a, x = some (some (.ref a)) ∧ SqL K HF a (ns.map V.int)
  | .dct k => ∃ p, x = some (some (.ref p)) ∧ g.H0 p = none ∧ HF p = none ∧ DkAt K H HF p k
  | .key ks => ∃ a, x = some (some (.ref a)) ∧ HF a = some (.tup (ks.map V.int))
  | .brd dss => ∃ p qs, x = some (some (.ref p)) ∧ BdAt K g H HF p qs dss
structure Rel (K : PySem.W.Frag) (g : Gh) (σ : St) (H HF : Hp) (ρ : Rho) (f : Feed) : Prop where
  sub : Le HF H
  feed : FeedAt g H HF f
  ext : ∀ a o, a ≠ g.fa → g.H0 a = some o → H a = some o
  le : Le g.HF0 HF
  new : ∀ a, Mo g.H0 a → g.HF0 a = none → HF a = none
  len : σ.length = ρ.length
  slot : ∀ (i : Nat) (s : Slot), ρ[i]? = some s → SlotOk K g H HF σ[i]? s
  sep : ∀ (i j : Nat) (ds es : List PyData), ρ[i]? = some (.own ds) → ρ[j]? = some (.own es) → σ[i]? = σ[j]? → i = j
  sepD : ∀ (i j : Nat) (k l : Dk), ρ[i]? = some (.dct k) → ρ[j]? = some (.dct l) → σ[i]? = σ[j]? → i = j
  bd : BdSep σ H ρ
/-- a board's rows are as they were -/
theorem Rel.bdWas {K : PySem.W.Frag} {g : Gh} {σ : St} {H HF G GF : Hp} {ρ : Rho} {f : Feed} (r : Rel K g σ H HF ρ f) (s : Step g H HF G GF) {i : Nat} {dss : List (List PyData)} {p : Addr} {qs : List Addr} (e : ρ[i]? = some (.brd dss)) (e1 : σ[i]? = some (some (.ref p))) (e2 : G p = some (.lst (qs.map V.ref))) : BdAt K g H HF p qs dss := by
  obtain ⟨p2, q2, z1, z2⟩ := r.slot i _ e
  rw [e1] at z1
  cases z1
  have := (z2.step r.feed s).rows e2
  subst this
  exact z2
theorem ne_fa {g : Gh} {H HF : Hp} {f : Feed} {p : Addr} {vs : List V} (h : FeedAt g H HF f) (e : H p = some (.lst vs)) : p ≠ g.fa := fun q => by
  rw [q, h.d] at e
  cases e
theorem Rel.step {K : PySem.W.Frag} {g : Gh} {σ : St} {H HF G GF : Hp} {ρ : Rho} {f f1 : Feed} (r : Rel K g σ H HF ρ f) (s : Step g H HF G GF) (h : FeedAt g G GF f1) : Rel K g σ G GF ρ f1 where
  sub := s.sub
  feed := h
  ext := fun a o q e => s.ext a o q (r.ext a o q e)
  le := r.le.trans s.le
  new := fun a e q => s.new a (by
    by_cases z : a = g.fa
    · rw [z]
      exact mo r.feed.d
    · obtain ⟨o, e1, e2⟩ := e
      exact ⟨o, r.ext a o z e1, e2⟩) (r.new a e q)
  len := r.len
  slot := fun i x e => by
    have z := r.slot i x e
    cases x with
    | emp => trivial
    | dat d =>
      obtain ⟨v, z1, z2⟩ := z
      exact ⟨v, z1, z2.mono s.le⟩
    | own ds =>
      obtain ⟨p, vs, z1, z2, z3, z4, z5⟩ := z
      exact ⟨p, vs, z1, z2, s.new p (mo z4) z3, s.ext p _ (ne_fa r.feed z4) z4, z5.mono s.le⟩
    | feed => exact z
    | scr ns =>
      obtain ⟨a, z1, z2⟩ := z
      exact ⟨a, z1, s.le.sqL z2⟩
    | dct k =>
      obtain ⟨p, z1, z2, z3, z4⟩ := z
      exact ⟨p, z1, z2, s.new p z4.mo z3, z4.mono (fun o => s.ext p o (z4.ne r.feed)) s.le⟩
    | key ks =>
      obtain ⟨a, z1, z2⟩ := z
      exact ⟨a, z1, s.le _ _ z2⟩
    | brd dss =>
      obtain ⟨p, qs, z1, z2⟩ := z
      exact ⟨p, qs, z1, z2.step r.feed s⟩
  sep := r.sep
  sepD := r.sepD
  bd := r.bd.to (fun i dss e => ⟨⟨dss, e⟩, rfl⟩) (fun j ds e => ⟨⟨ds, e⟩, rfl⟩) fun i dss p qs e1 e2 e3 => (r.bdWas s e1 e2 e3).1
/-- a value that an expression gave: σ, H the state ahead of it -/
def RR (K : PySem.W.Frag) (g : Gh) (σ : St) (H G GF : Hp) (v : V) : RV → Prop
  | .dat d => DR K GF v d
  | .own ds => ∃ p vs, v = .ref p ∧ H p = none ∧ GF p = none ∧ G p = some (.lst vs) ∧ DRs K GF vs ds
  | .lent i ds => ∃ p vs, v = .ref p ∧ g.H0 p = none ∧ GF p = none ∧ G p = some (.lst vs) ∧ DRs K GF vs ds
  | .feed => v = .ref g.fa
section
variable {K : PySem.W.Frag} {g : Gh} {σ : St} {H HF G GF I IF : Hp} {v : V} {rv : RV} {f : Feed} {d : PyData}
theorem RR.step (r : RR K g σ H G GF v rv) (h : FeedAt g G GF f) (s : Step g G GF I IF) : RR K g σ H I IF v rv := by
  cases rv with
  | dat d => exact DR.mono s.le r
  | own ds =>
    obtain ⟨p, vs, e1, e2, e3, e4, e5⟩ := r
    exact ⟨p, vs, e1, e2, s.new p (mo e4) e3, s.ext p _ (ne_fa h e4) e4, e5.mono s.le⟩
  | lent i ds =>
    obtain ⟨p, vs, e1, e0, e3, e4, e5⟩ := r
    exact ⟨p, vs, e1, e0, s.new p (mo e4) e3, s.ext p _ (ne_fa h e4) e4, e5.mono s.le⟩
  | feed => exact r
theorem RR.back (r : RR K g σ G I IF v rv) (h : FeedAt g G GF f) (s : Step g H HF G GF) : RR K g σ H I IF v rv := by
  cases rv with
  | dat d => exact r
  | own ds =>
    obtain ⟨p, vs, e1, e2, e3⟩ := r
    exact ⟨p, vs, e1, s.dead h e2, e3⟩
  | lent i ds => exact r
  | feed => exact r
theorem RR.top (r : RR K g σ H G GF v rv) (h : FeedAt g G GF f) (e : rv.peek = some d) : Top K g G GF v d := by
  cases rv with
  | dat c =>
    cases e
    exact .inl r
  | own ds =>
    cases e
    obtain ⟨p, vs, e1, e2, e3, e4, e5⟩ := r
    exact .inr ⟨p, vs, ds, e1, rfl, ne_fa h e4, e4, e5⟩
  | lent i ds =>
    cases e
    obtain ⟨p, vs, e1, e0, e3, e4, e5⟩ := r
    exact .inr ⟨p, vs, ds, e1, rfl, ne_fa h e4, e4, e5⟩
  | feed => cases e
/-- a new list may be told as a datum from here on -/
theorem RR.frz (r : RR K g σ H G GF v rv) (h : FeedAt g G GF f) (s : Step g H HF G GF) (e : rv.data = some d) : ∃ IF, Step g H HF G IF ∧ FeedAt g G IF f ∧ DR K IF v d := by
  cases rv with
  | dat c =>
    cases e
    exact ⟨GF, s, h, r⟩
  | own ds =>
    cases e
    obtain ⟨p, vs, e1, e2, e3, e4, e5⟩ := r
    subst e1
    have np : g.fa ≠ p := fun q => ne_fa h e4 q.symm
    have l1 : Le GF (upd GF p (.lst vs)) := fun a o q => by
      rw [upd_ne (ne_of_none q e3)]
      exact q
    refine ⟨upd GF p (.lst vs), ⟨s.ext, s.le.trans l1, fun a x y => ?_, fun a o q => ?_⟩, ⟨h.d, ?_, ?_⟩, .lst upd_same (e5.mono l1)⟩
    · rw [upd_ne (fun z => x.some (by rw [z]; exact e2))]
      exact s.new a x y
    · by_cases z : a = p
      · subst z
        rw [upd_same] at q
        rw [e4]
        exact q
      · rw [upd_ne z] at q
        exact s.sub a o q
    · rw [upd_ne np]
      exact h.nf
    · rw [upd_ne (ne_of_none h.c e3)]
      exact h.c
  | lent i ds => cases e
  | feed => cases e
end
def Xd (K : PySem.W.Frag) (H HF : Hp) (od : Option Addr) (vs : List (Str × PyData)) : Prop := ∃ xs, XdH HF od xs ∧ xs.map (·.1) = vs.map (·.1) ∧ DRs K HF (xs.map (·.2)) (vs.map (·.2))
/-- what is wanted of an outcome -/
def ROk {α : Type} (K : PySem.W.Frag) (mg : Str → Option Value) (g : Gh) (H HF : Hp) (E : XK) (r : R α) (P : α → Feed → Prop) : Prop := match r with
  | .no => False
  | .ok a f => P a f
  | .ex c vs f => ∀ (C : Addr) (od : Option Addr) (G GF : Hp), mg c = some (.ref C) → Step g H HF G GF → FeedAt g G GF f → Xd K G GF od vs → E (.ref C) od G
def Fin (K : PySem.W.Frag) (g : Gh) (σ : St) (H HF : Hp) (Q : VK) (rv : RV) (f : Feed) : Prop := ∀ v G GF, Step g H HF G GF → FeedAt g G GF f → RR K g σ H G GF v rv → Q v G
abbrev Wish := St → XK
def tD (K : PySem.W.Frag) (mg : Str → Option Value) (W : Wish) (e : Ex) : TE := fun σ H Q => ∃ g HF ρ f, Rel K g σ H HF ρ f ∧ ROk K mg g H HF (W σ) (e ρ f) (Fin K g σ H HF Q)
section
variable {K : PySem.W.Frag} {mg : Str → Option Value} {W : Wish} {g : Gh} {σ : St} {H HF G GF : Hp} {ρ : Rho} {f f1 : Feed} {e e2 : Ex} {Q : VK} {E : XK}
theorem ROk.mono {α : Type} {r : R α} {P P2 : α → Feed → Prop} (h : ROk K mg g H HF E r P) (i : ∀ a f, P a f → P2 a f) : ROk K mg g H HF E r P2 := by
  cases r with
  | no => exact h
  | ok a f => exact i a f h
  | ex c vs f => exact h
theorem ROk.later {α : Type} {r : R α} {P : α → Feed → Prop} (h : ROk K mg g H HF E r P) (hf : FeedAt g G GF f) (s : Step g H HF G GF) : ROk K mg g G GF E r P := by
  cases r with
  | no => exact h
  | ok a f => exact h
  | ex c vs f => exact fun C od I IF q s2 h2 x => h C od I IF q (s.trans hf s2) h2 x
theorem ROk.of_bind {α β : Type} {r : R α} {k : α → Feed → R β} {P : β → Feed → Prop} (h : ROk K mg g H HF E (r.bind k) P) : ROk K mg g H HF E r fun a f => ROk K mg g H HF E (k a f) P := by
  cases r with
  | no => exact h
  | ok a f => exact h
  | ex c vs f => exact h
/-- an expression, then the rest -/
theorem tD_bind {β : Type} {k : RV → Feed → R β} {P : β → Feed → Prop} (r : Rel K g σ H HF ρ f) (h : ROk K mg g H HF (W σ) ((e ρ f).bind k) P)
    (c : ∀ rv f1 v G GF, Rel K g σ G GF ρ f1 → Step g H HF G GF → RR K g σ H G GF v rv → ROk K mg g G GF (W σ) (k rv f1) P → Q v G) : tD K mg W e σ H Q :=
  ⟨g, HF, ρ, f, r, h.of_bind.mono fun rv f1 q v G GF s hf rr => c rv f1 v G GF (r.step s hf) s rr (q.later hf s)⟩
def pk {β : Type} (r : R RV) (k : PyData → Feed → R β) : R β := r.bind fun rv f => match rv.peek with
  | some d => k d f
  | none => .no
def dt {β : Type} (r : R RV) (k : PyData → Feed → R β) : R β := r.bind fun rv f => match rv.data with
  | some d => k d f
  | none => .no
/-- .. read -/
theorem tD_pk {β : Type} {k : PyData → Feed → R β} {P : β → Feed → Prop} (r : Rel K g σ H HF ρ f) (h : ROk K mg g H HF (W σ) (pk (e ρ f) k) P)
    (c : ∀ d f1 v G GF, Rel K g σ G GF ρ f1 → Step g H HF G GF → Top K g G GF v d → ROk K mg g G GF (W σ) (k d f1) P → Q v G) : tD K mg W e σ H Q :=
  tD_bind r h fun rv f1 v G GF r1 s rr q => by
    cases z : rv.peek with
    | none =>
      simp only [z] at q
      exact q.elim
    | some d =>
      simp only [z] at q
      exact c d f1 v G GF r1 s (rr.top r1.feed z) q
/-- .. told as a datum -/
theorem tD_dt {β : Type} {k : PyData → Feed → R β} {P : β → Feed → Prop} (r : Rel K g σ H HF ρ f) (h : ROk K mg g H HF (W σ) (dt (e ρ f) k) P)
    (c : ∀ d f1 v G GF, Rel K g σ G GF ρ f1 → Step g H HF G GF → DR K GF v d → ROk K mg g G GF (W σ) (k d f1) P → Q v G) : tD K mg W e σ H Q :=
  ⟨g, HF, ρ, f, r, (ROk.of_bind h).mono fun rv f1 q v G GF s hf rr => by
    cases z : rv.data with
    | none =>
      simp only [z] at q
      exact (show False from q).elim
    | some d =>
      simp only [z] at q
      obtain ⟨IF, s2, h2, dr⟩ := rr.frz hf s z
      exact c d f1 v G IF (r.step s2 h2) s2 dr (q.later h2 s2)⟩
theorem pe_mono {X : Cx} {e : Expr} {t t2 : TE} (h : PE X e t) (i : ∀ σ H Q, t2 σ H Q → t σ H Q) : PE X e t2 := ⟨fun pins s σ H Q I q => h.run pins s σ H Q I (i σ H Q q)⟩
end
abbrev DE (X : Cx) (W : Wish) (e : Expr) (x : Ex) : Prop := PE X e (tD X.K X.mg W x)
def cC (d : PyData) : Ex := fun _ f => .ok (.dat d) f
def cVar (i : Nat) : Ex := fun ρ f => match ρ[i]? with
  | some (.dat d) => .ok (.dat d) f
  | some (.own ds) => .ok (.lent i ds) f
  | some .feed => .ok .feed f
  | some (.key ks) => .ok (.dat (.tuple (ks.map .int))) f
  | _ => .no
section
variable {X : Cx} {W : Wish}
theorem de_const {e : Expr} {v : V} {d : PyData} (h : PE X e (tC v)) (r : ∀ HF, DR X.K HF v d) : DE X W e (cC d) := pe_mono h fun σ H Q ⟨g, HF, ρ, f, rel, q⟩ =>
  (show Fin X.K g σ H HF Q (.dat d) f from q) v H HF (Step.refl rel.sub) rel.feed (r HF)
theorem de_int {i j pos} : DE X W (.Constant (.int i) j pos) (cC (.int i)) := de_const pe_int fun _ => .int i
theorem de_bl {b j pos} : DE X W (.Constant (.bool b) j pos) (cC (.bool b)) := de_const pe_bl fun _ => .bl b
theorem de_non {j pos} : DE X W (.Constant .none j pos) (cC .none) := de_const pe_non fun _ => .non
theorem de_str {x j pos} : DE X W (.Constant (.str x) j pos) (cC (.str x)) := de_const pe_str fun _ => .str x
theorem de_var {e : Expr} {i : Nat} (h : PE X e (tVar i)) : DE X W e (cVar i) := pe_mono h fun σ H Q ⟨g, HF, ρ, f, rel, q⟩ => by
  unfold cVar at q
  cases z : ρ[i]? with
  | none =>
    simp only [z] at q
    exact (show False from q).elim
  | some s =>
    have k := rel.slot i s z
    cases s with
    | emp =>
      simp only [z] at q
      exact (show False from q).elim
    | dat d =>
      simp only [z] at q
      obtain ⟨v, k1, k2⟩ := k
      exact ⟨v, k1, (show Fin X.K g σ H HF Q (.dat d) f from q) v H HF (Step.refl rel.sub) rel.feed k2⟩
    | own ds =>
      simp only [z] at q
      obtain ⟨p, vs, k1, k2, k3, k4, k5⟩ := k
      exact ⟨.ref p, k1, (show Fin X.K g σ H HF Q (.lent i ds) f from q) (.ref p) H HF (Step.refl rel.sub) rel.feed ⟨p, vs, rfl, k2, k3, k4, k5⟩⟩
    | feed =>
      simp only [z] at q
      exact ⟨.ref g.fa, k, (show Fin X.K g σ H HF Q .feed f from q) (.ref g.fa) H HF (Step.refl rel.sub) rel.feed rfl⟩
    | scr ns =>
      simp only [z] at q
      exact (show False from q).elim
    | dct k =>
      simp only [z] at q
      exact (show False from q).elim
    | brd k =>
      simp only [z] at q
      exact (show False from q).elim
    | key ks =>
      simp only [z] at q
      obtain ⟨a, k1, k2⟩ := k
      exact ⟨.ref a, k1, (show Fin X.K g σ H HF Q (.dat (.tuple (ks.map .int))) f from q) (.ref a) H HF (Step.refl rel.sub) rel.feed (.tup (.inl (.inl k2)) (DRs.ints ks))⟩
end
end Dn
end
section
set_option maxHeartbeats 4000000
namespace Dn
open PySem PySem.Spec L2
open PySem.AutoSeq1 (wpAny_loadPart')
open PyProof.Rows (IsTup)
theorem tup_mul_one (l : Addr) (its : Array Value) (n : Nat) (dd : Option Addr) (sl : Array (Option Value)) (x : Int) (u : Tok)
    (c0 : (decide (x < -(2 ^ 63)) || decide (x ≥ 2 ^ 63)) = false) (c1 : (its.isEmpty || x == 1) = true) :
    Meets (Builtin.«tuple.__mul__» ⟨[.ref l, .int x u], []⟩) (fun _ R s =>
      s.heap.get? l = some { cls := .type "tuple", dict := dd, data := .seq its n, slots := sl } ∧ R (.ok (.ret (.ref l))) s) :=
  .of_wp fun prog w A R s h => by
    obtain ⟨hp, g, d, tk, os⟩ := s
    obtain ⟨hl, h⟩ := h
    have f1 := AutoSeq1.idx_int
    wp_walk using wpAny_loadPart' hl
    repeat (first
      | (refine wpAny_ite_false (decide_eq_false (by rw [c0]; exact Bool.false_ne_true)) ?_; wp_walk using wpAny_loadPart' hl)
      | (refine wpAny_ite_true (decide_eq_true (by rw [c1])) ?_; wp_walk using wpAny_loadPart' hl))
    exact ⟨_, rfl, h⟩
theorem tup_mul_none (l : Addr) (its : Array Value) (n : Nat) (dd : Option Addr) (sl : Array (Option Value)) (x : Int) (u : Tok)
    (c0 : (decide (x < -(2 ^ 63)) || decide (x ≥ 2 ^ 63)) = false) (c1 : (its.isEmpty || x == 1) = false) (c2 : (decide (x ≤ 0) || its.isEmpty) = true) :
    Meets (Builtin.«tuple.__mul__» ⟨[.ref l, .int x u], []⟩) (fun _ R s =>
      s.heap.get? l = some { cls := .type "tuple", dict := dd, data := .seq its n, slots := sl } ∧
        R (.ok (.ret (.ref s.heap.objs.size))) { s with heap := s.heap.push { cls := .type "tuple", data := .seq #[] }, toks := s.toks }) :=
  .of_wp fun prog w A R s h => by
    obtain ⟨hp, g, d, tk, os⟩ := s
    obtain ⟨hl, h⟩ := h
    have f1 := AutoSeq1.idx_int
    wp_walk using wpAny_loadPart' hl
    repeat (first
      | (refine wpAny_ite_false (decide_eq_false (by rw [c0]; exact Bool.false_ne_true)) ?_; wp_walk using wpAny_loadPart' hl)
      | (refine wpAny_ite_false (decide_eq_false (by rw [c1]; exact Bool.false_ne_true)) ?_; wp_walk using wpAny_loadPart' hl)
      | (refine wpAny_ite_true (decide_eq_true (by rw [c2])) ?_; wp_walk using wpAny_loadPart' hl))
    exact ⟨_, rfl, h⟩
def rRep1 (K : PySem.W.Frag) : R2 := fun x y H Q => ∃ l k xs, x = .ref l ∧ y = .int k ∧ SqT K H l xs ∧ -(2 ^ 60) ≤ k ∧ k ≤ 2 ^ 60 ∧ (xs = [] ∨ k ≤ 1) ∧
  ((xs = [] ∨ k = 1) → Q (.ref l) H) ∧ (xs ≠ [] → k ≤ 0 → ∀ p, H p = none → Q (.ref p) (upd H p (.tup [])))
theorem op_rep1 {X : Cx} : OpR X (binaryOp .Mult) (rRep1 X.K) := by
  intro pins s σ H x y v u Q I rx ry h
  obtain ⟨l, k, xs, rfl, rfl, hT, h1, h2, h3, q1, q2⟩ := h
  cases rx
  obtain ⟨t, rfl⟩ := ry
  obtain ⟨its, r, ⟨⟨cls, dd, data, sl⟩, ho, hc, n, hd⟩, hs⟩ := I.tuple hT
  simp only at hc hd
  subst hc hd
  have c0 : (decide (k < -(2 ^ 63)) || decide (k ≥ 2 ^ 63)) = false := by
    rw [decide_eq_false (by omega), decide_eq_false (by omega)] <;> rfl
  have emp : its.toArray.isEmpty = true ↔ xs = [] := by
    constructor
    · intro e
      cases its with
      | nil => cases r; rfl
      | cons a b => simp at e
    · intro e
      subst e
      cases r
      rfl
  by_cases c : xs = [] ∨ k = 1
  · have c1 : (its.toArray.isEmpty || k == 1) = true := by
      rcases c with c | c
      · rw [emp.mpr c]; rfl
      · rw [c]; simp
    refine wpAny_binaryOp_repeat_ref (T := "tuple") (U := "int") (by decide) ⟨_, ho, rfl⟩ (fun s' => typeIs_int s' k t) noFill_tuple_mul F.fills_int_mul F.slot_int_rmul repeat_tuple F.slot_int_index.lookup
      (call_meets F.slot_int_rmul (typeIs_int s k t) F.entry_int_rmul (F.args_int_rmul_2 _ _) (int_rmul_tuple k t l its.toArray n dd sl)
        ⟨ho, rfl, ⟨_, ho, rfl⟩, call_meets F.slot_tuple_mul ⟨_, ho, rfl⟩ F.entry_tuple_mul (F.args_tuple_mul_2 _ _) (tup_mul_one l its.toArray n dd sl k t c0 c1) ⟨ho, ?_⟩⟩)
    exact ⟨.ref l, H, I, rfl, q1 c⟩
  · have nx : xs ≠ [] := fun e => c (.inl e)
    have nk : k ≠ 1 := fun e => c (.inr e)
    have ie : its.toArray.isEmpty = false := by
      cases z : its.toArray.isEmpty with
      | false => rfl
      | true => exact absurd (emp.mp z) nx
    have c1 : (its.toArray.isEmpty || k == 1) = false := by
      rw [ie, Bool.false_or]
      exact beq_eq_false_iff_ne.mpr nk
    have c2 : (decide (k ≤ 0) || its.toArray.isEmpty) = true := by
      rw [decide_eq_true (show k ≤ 0 by rcases h3 with h3 | h3; exact absurd h3 nx; omega)]; rfl
    refine wpAny_binaryOp_repeat_ref (T := "tuple") (U := "int") (by decide) ⟨_, ho, rfl⟩ (fun s' => typeIs_int s' k t) noFill_tuple_mul F.fills_int_mul F.slot_int_rmul repeat_tuple F.slot_int_index.lookup
      (call_meets F.slot_int_rmul (typeIs_int s k t) F.entry_int_rmul (F.args_int_rmul_2 _ _) (int_rmul_tuple k t l its.toArray n dd sl)
        ⟨ho, rfl, ⟨_, ho, rfl⟩, call_meets F.slot_tuple_mul ⟨_, ho, rfl⟩ F.entry_tuple_mul (F.args_tuple_mul_2 _ _) (tup_mul_none l its.toArray n dd sl k t c0 c1 c2) ⟨ho, ?_⟩⟩)
    refine ⟨.ref s.heap.objs.size, _, I.laid (t' := s.toks) (o := .tup []) (fun b ob q => Heap.get?_push_of_some _ q) (Nat.le_refl _) ?_, rfl, q2 nx (by rcases h3 with h3 | h3; exact absurd h3 nx; omega) _ (I.hok.fresh (Nat.le_refl _))⟩
    exact ⟨Nat.zero_le _, _, .nil, IsTup.new _ _⟩
end Dn
end
section
set_option maxHeartbeats 4000000
namespace Dn
open PySem PySem.Spec L2
abbrev Op2 := PyData → PyData → Option RV
abbrev Op1 := PyData → Option RV
def give (o : Option RV) (f : Feed) : R RV := match o with
  | some rv => .ok rv f
  | none => .no
def cBin (o : Op2) (a b : Ex) : Ex := fun ρ f => pk (a ρ f) fun x f1 => pk (b ρ f1) fun y f2 => give (o x y) f2
def cUn (o : Op1) (a : Ex) : Ex := fun ρ f => pk (a ρ f) fun x f1 => give (o x) f1
/-- what an operation's reading needs -/
structure At (K : PySem.W.Frag) (g : Gh) (H HF : Hp) (f : Feed) : Prop where
  sub : Le HF H
  feed : FeedAt g H HF f
def Ends1 (K : PySem.W.Frag) (g : Gh) (H HF : Hp) (f : Feed) (rv : RV) (Q : VK) : Prop := ∀ v G GF, Step g H HF G GF → FeedAt g G GF f → RR K g [] H G GF v rv → Q v G
def BinOk (K : PySem.W.Frag) (r : R2) (o : Op2) : Prop := ∀ g H HF f x y d e rv, At K g H HF f → Top K g H HF x d → Top K g H HF y e → o d e = some rv → ∀ Q, Ends1 K g H HF f rv Q → r x y H Q
def UnOk (K : PySem.W.Frag) (r : V → Hp → VK → Prop) (o : Op1) : Prop := ∀ g H HF f x d rv, At K g H HF f → Top K g H HF x d → o d = some rv → ∀ Q, Ends1 K g H HF f rv Q → r x H Q
theorem RR.any {K : PySem.W.Frag} {g : Gh} {σ : St} {H G GF : Hp} {v : V} {rv : RV} (r : RR K g [] H G GF v rv) : RR K g σ H G GF v rv := by
  cases rv with
  | dat d => exact r
  | own ds => exact r
  | lent i ds => exact r
  | feed => exact r
section
variable {X : Cx} {W : Wish} {K : PySem.W.Frag} {mg : Str → Option Value} {fa fb : Ex} {r r2 : R2} {o o2 : Op2}
theorem give_end {g : Gh} {σ : St} {H HF G GF : Hp} {f : Feed} {E : XK} {Q : VK} {x : Option RV} (rel : FeedAt g G GF f) (st : Step g H HF G GF)
    (q : ROk K mg g G GF E (give x f) (Fin K g σ H HF Q)) : ∃ rv, x = some rv ∧ Ends1 K g G GF f rv Q := by
  cases x with
  | none => exact (show False from q).elim
  | some rv => exact ⟨rv, rfl, fun v I IF s h rr => (show Fin K g σ H HF Q rv f from q) v I IF (st.trans rel s) h (rr.any.back rel st)⟩
theorem bin_read (hb : BinOk K r o) {σ : St} {H : Hp} {Q : VK} (h : tD K mg W (cBin o fa fb) σ H Q) : tOp r (tD K mg W fa) (tD K mg W fb) σ H Q := by
  obtain ⟨g, HF, ρ, f, rel, q⟩ := h
  refine tD_pk rel q fun d f1 x G GF r1 s1 t1 q1 => tD_pk r1 q1 fun e f2 y I IF r2 s2 t2 q2 => ?_
  obtain ⟨rv, z, k⟩ := give_end r2.feed (s1.trans r1.feed s2) q2
  exact hb g I IF f2 x y d e rv ⟨r2.sub, r2.feed⟩ (t1.step s2) t2 z Q k
theorem un_read {r : V → Hp → VK → Prop} {o : Op1} (hb : UnOk K r o) {σ : St} {H : Hp} {Q : VK} (h : tD K mg W (cUn o fa) σ H Q) : tUn r (tD K mg W fa) σ H Q := by
  obtain ⟨g, HF, ρ, f, rel, q⟩ := h
  refine tD_pk rel q fun d f1 x G GF r1 s1 t1 q1 => ?_
  obtain ⟨rv, z, k⟩ := give_end r1.feed s1 q1
  exact hb g G GF f1 x d rv ⟨r1.sub, r1.feed⟩ t1 z Q k
theorem BinOk.or (h : BinOk K r o) (h2 : BinOk K r2 o2) : BinOk K (fun x y H Q => r x y H Q ∨ r2 x y H Q) fun d e => (o d e).or (o2 d e) := fun g H HF f x y d e rv a t u z Q k => by
  replace z : (o d e).or (o2 d e) = some rv := z
  cases q : o d e with
  | some w =>
    rw [q] at z
    exact .inl (h g H HF f x y d e rv a t u (q.trans z) Q k)
  | none =>
    rw [q] at z
    exact .inr (h2 g H HF f x y d e rv a t u z Q k)
theorem de_bin {op : Operator} {a b : Expr} {pos : Pos} (ho : OpR X (binaryOp op) r) (hb : BinOk X.K r o) (ha : DE X W a fa) (hc : DE X W b fb) : DE X W (.BinOp a op b pos) (cBin o fa fb) :=
  pe_mono (pe_op ho ha hc) fun _ _ _ h => bin_read hb h
theorem de_un {op : UnaryOp} {a : Expr} {pos : Pos} {r : V → Hp → VK → Prop} {o : Op1} (ho : UnR X (unaryOp op) r) (hb : UnOk X.K r o) (ha : DE X W a fa) : DE X W (.UnaryOp op a pos) (cUn o fa) :=
  pe_mono (pe_un ho ha) fun _ _ _ h => un_read hb h
theorem de_cmp {op : CmpOp} {a b : Expr} {pos : Pos} (ho : OpR X (compareOp op) r) (hb : BinOk X.K r o) (ha : DE X W a fa) (hc : DE X W b fb) (hm : behindInMarks op b = false) : DE X W (.Compare a [op] [b] pos) (cBin o fa fb) :=
  pe_mono (pe_cmpR ho ha hc hm) fun _ _ _ h => bin_read hb h
end
section
variable {K : PySem.W.Frag} {g : Gh} {H HF : Hp} {v : V}
theorem Top.int {i : Int} (t : Top K g H HF v (.int i)) : v = .int i := by
  rcases t with h | ⟨p, vs, ds, e1, e2, e3⟩
  · cases h; rfl
  · cases e2
theorem Top.bl {b : Bool} (t : Top K g H HF v (.bool b)) : v = .bl b := by
  rcases t with h | ⟨p, vs, ds, e1, e2, e3⟩
  · cases h; rfl
  · cases e2
theorem Top.str {x : Str} (t : Top K g H HF v (.str x)) : v = .str x := by
  rcases t with h | ⟨p, vs, ds, e1, e2, e3⟩
  · cases h; rfl
  · cases e2
theorem Top.non (t : Top K g H HF v .none) : v = .non := by
  rcases t with h | ⟨p, vs, ds, e1, e2, e3⟩
  · cases h; rfl
  · cases e2
theorem Top.lst {ds : List PyData} (t : Top K g H HF v (.list ds)) (l : Le HF H) : ∃ p vs, v = .ref p ∧ H p = some (.lst vs) ∧ DRs K HF vs ds := by
  rcases t with h | ⟨p, vs, es, e1, e2, e3, e4, e5⟩
  · cases h with
    | lst h r => exact ⟨_, _, rfl, l _ _ h, r⟩
  · cases e2
    exact ⟨p, vs, e1, e4, e5⟩
theorem Top.tup {ds : List PyData} (t : Top K g H HF v (.tuple ds)) : ∃ p vs, v = .ref p ∧ SqT K HF p vs ∧ DRs K HF vs ds := by
  rcases t with h | ⟨p, vs, es, e1, e2, e3⟩
  · cases h with
    | tup h r => exact ⟨_, _, rfl, h, r⟩
  · cases e2
end
section
variable {K : PySem.W.Frag} {g : Gh} {H HF : Hp} {f : Feed} {Q : VK}
theorem Ends1.now {v : V} {d : PyData} (a : At K g H HF f) (k : Ends1 K g H HF f (.dat d) Q) (r : DR K HF v d) : Q v H := k v H HF (Step.refl a.sub) a.feed r
/-- a new tuple -/
theorem Ends1.newT {vs : List V} {ds : List PyData} (a : At K g H HF f) (k : Ends1 K g H HF f (.dat (.tuple ds)) Q) (r : DRs K HF vs ds) (p : Addr) (hp : H p = none) : Q (.ref p) (upd H p (.tup vs)) := by
  have hf : HF p = none := by
    cases z : HF p with
    | none => rfl
    | some o => rw [a.sub _ _ z] at hp; cases hp
  have l : Le HF (upd HF p (.tup vs)) := fun b o e => by
    rw [upd_ne (ne_of_none e hf)]
    exact e
  refine k (.ref p) (upd H p (.tup vs)) (upd HF p (.tup vs)) ⟨fun b o _ e => ?_, l, fun b x y => ?_, fun b o e => ?_⟩ ⟨?_, ?_, ?_⟩ (.tup (.inl (.inl upd_same)) (r.mono l))
  · rw [upd_ne (ne_of_none e hp)]
    exact e
  · rw [upd_ne (fun z => x.some (by rw [z]; exact hp))]
    exact y
  · by_cases z : b = p
    · subst z
      rw [upd_same] at e ⊢
      exact e
    · rw [upd_ne z] at e ⊢
      exact a.sub _ _ e
  · rw [upd_ne (ne_of_none a.feed.d hp)]
    exact a.feed.d
  · rw [upd_ne (ne_of_none a.feed.d hp)]
    exact a.feed.nf
  · exact l _ _ a.feed.c
/-- a new list -/
theorem Ends1.newL {vs : List V} {ds : List PyData} (a : At K g H HF f) (k : Ends1 K g H HF f (.own ds) Q) (r : DRs K HF vs ds) (p : Addr) (hp : H p = none) : Q (.ref p) (upd H p (.lst vs)) := by
  have hf : HF p = none := by
    cases z : HF p with
    | none => rfl
    | some o => rw [a.sub _ _ z] at hp; cases hp
  refine k (.ref p) (upd H p (.lst vs)) HF ⟨fun b o _ e => ?_, Le.refl _, fun b x y => y, fun b o e => ?_⟩ ⟨?_, a.feed.nf, a.feed.c⟩ ⟨p, vs, rfl, hp, hf, upd_same, r⟩
  · rw [upd_ne (ne_of_none e hp)]
    exact e
  · rw [upd_ne (ne_of_none e hf)]
    exact a.sub _ _ e
  · rw [upd_ne (ne_of_none a.feed.d hp)]
    exact a.feed.d
end
def intsOp (c : Int → Int → Bool) (h : Int → Int → PyData) : Op2
  | .int i, .int j => if c i j then some (.dat (h i j)) else none
  | _, _ => none
theorem intsOp_ok {K : PySem.W.Frag} {C : Int → Int → Prop} {c : Int → Int → Bool} {h : Int → Int → Int} (hc : ∀ i j, c i j = true → C i j) : BinOk K (rI C fun i j => .int (h i j)) (intsOp c fun i j => .int (h i j)) :=
  fun g H HF f x y d e rv a t u z Q k => by
    cases d <;> cases e <;> try cases z
    rename_i i j
    unfold intsOp at z
    cases q : c i j with
    | false =>
      simp only [q] at z
      exact absurd z (by simp)
    | true =>
      simp only [q, if_true] at z
      cases z
      exact ⟨i, j, t.int, u.int, hc i j q, k.now a (.int _)⟩
theorem intsB_ok {K : PySem.W.Frag} {h : Int → Int → Bool} : BinOk K (rI0 fun i j => .bl (h i j)) (intsOp (fun _ _ => true) fun i j => .bool (h i j)) :=
  fun g H HF f x y d e rv a t u z Q k => by
    cases d <;> cases e <;> try cases z
    rename_i i j
    exact ⟨i, j, t.int, u.int, k.now a (.bl _)⟩
theorem intsI_ok {K : PySem.W.Frag} {h : Int → Int → Int} : BinOk K (rI0 fun i j => .int (h i j)) (intsOp (fun _ _ => true) fun i j => .int (h i j)) :=
  fun g H HF f x y d e rv a t u z Q k => by
    cases d <;> cases e <;> try cases z
    rename_i i j
    exact ⟨i, j, t.int, u.int, k.now a (.int _)⟩
def mulC (i j : Int) : Bool := decide (i.natAbs.log2 + j.natAbs.log2 < 1000000)
def divC (_ j : Int) : Bool := decide (0 < j) && decide (j.natAbs.log2 < 9000)
def modC (_ j : Int) : Bool := decide (0 < j)
def powC (i j : Int) : Bool := decide (0 ≤ j) && decide (j ≤ 1000000) && decide (i.natAbs < 2 ^ 64)
def oSub : Op2 := intsOp (fun _ _ => true) fun i j => .int (i - j)
def oDiv : Op2 := intsOp divC fun i j => .int (i / j)
def oMod : Op2 := intsOp modC fun i j => .int (i % j)
def oPow : Op2 := intsOp powC fun i j => .int (i ^ j.toNat)
/-- + -/
def catL : Op2
  | .list xs, .list ys => if xs.length + ys.length ≤ 100000 then some (.own (xs ++ ys)) else none
  | _, _ => none
def catT : Op2
  | .tuple xs, .tuple ys => if xs.length + ys.length ≤ 100000 then some (.dat (.tuple (xs ++ ys))) else none
  | _, _ => none
def catS : Op2
  | .str xs, .str ys => if xs.length + ys.length ≤ 100000 then some (.dat (.str (xs ++ ys))) else none
  | _, _ => none
def oAdd : Op2 := fun d e => (intsOp (fun _ _ => true) (fun i j => .int (i + j)) d e).or ((catL d e).or ((catT d e).or (catS d e)))
theorem ite_some {c : Prop} [Decidable c] {a b : RV} (h : (if c then some a else none) = some b) : c ∧ a = b := by
  by_cases q : c
  · rw [if_pos q] at h
    exact ⟨q, Option.some.inj h⟩
  · rw [if_neg q] at h
    cases h
theorem line5 {n : Nat} (h : n ≤ 100000) : n ≤ sizeLine := Nat.le_trans h (by decide)
theorem catL_ok {K : PySem.W.Frag} : BinOk K rCat catL := fun g H HF f x y d e rv a t u z Q k => by
  cases d <;> cases e <;> try cases z
  rename_i xs ys
  · obtain ⟨hl, rfl⟩ := ite_some (show (if _ then some _ else none) = some rv from z)
    obtain ⟨p, vs, rfl, hp, rp⟩ := t.lst a.sub
    obtain ⟨q, ws, rfl, hq, rq⟩ := u.lst a.sub
    exact ⟨p, q, vs, ws, rfl, rfl, hp, hq, by rw [rp.length, rq.length]; exact line5 hl, fun n hn => k.newL a (rp.append rq) n hn⟩
theorem catT_ok {K : PySem.W.Frag} : BinOk K (rCatA K) catT := fun g H HF f x y d e rv a t u z Q k => by
  cases d <;> cases e <;> try cases z
  rename_i xs ys
  · obtain ⟨hl, rfl⟩ := ite_some (show (if _ then some _ else none) = some rv from z)
    obtain ⟨p, vs, rfl, hp, rp⟩ := t.tup
    obtain ⟨q, ws, rfl, hq, rq⟩ := u.tup
    refine ⟨p, q, vs, ws, rfl, rfl, a.sub.sqT hp, a.sub.sqT hq, by rw [rp.length, rq.length]; exact line5 hl, fun e1 => ?_, fun _ e1 => ?_, fun _ _ n hn => k.newT a (rp.append rq) n hn⟩
    · subst e1
      cases rp
      exact k.now a (.tup hq rq)
    · subst e1
      cases rq
      rw [List.append_nil] at k
      exact k.now a (.tup hp rp)
theorem catS_ok {K : PySem.W.Frag} : BinOk K (fun x y H Q => ∃ i j, x = .str i ∧ y = .str j ∧ i.length + j.length ≤ sizeLine ∧ Q (.str (i ++ j)) H) catS := fun g H HF f x y d e rv a t u z Q k => by
  cases d <;> cases e <;> try cases z
  rename_i xs ys
  · obtain ⟨hl, rfl⟩ := ite_some (show (if _ then some _ else none) = some rv from z)
    exact ⟨xs, ys, t.str, u.str, line5 hl, k.now a (.str _)⟩
/-- * -/
def repL : Op2
  | .list xs, .int k => if -1000 ≤ k ∧ k ≤ 1000 ∧ xs.length ≤ 1000 then some (.own (List.replicate k.toNat xs).flatten) else none
  | _, _ => none
def repT : Op2
  | .tuple xs, .int k => if -1000 ≤ k ∧ k ≤ 1000 ∧ xs.length ≤ 1000 then some (.dat (.tuple (List.replicate k.toNat xs).flatten)) else none
  | _, _ => none
def oMul : Op2 := fun d e => (intsOp mulC (fun i j => .int (i * j)) d e).or ((repL d e).or (repT d e))
theorem repL_ok {K : PySem.W.Frag} : BinOk K rRep repL := fun g H HF f x y d e rv a t u z Q k => by
  cases d <;> cases e <;> try cases z
  rename_i xs i
  · obtain ⟨hl, rfl⟩ := ite_some (show (if _ then some _ else none) = some rv from z)
    obtain ⟨p, vs, rfl, hp, rp⟩ := t.lst a.sub
    have hz : vs.length * i.toNat ≤ 1000 * 1000 := Nat.mul_le_mul (by rw [rp.length]; exact hl.2.2) (by omega)
    exact ⟨p, i, vs, rfl, u.int, hp, by omega, by omega, Nat.le_trans hz (by decide), fun n hn => k.newL a (rp.rep i.toNat) n hn⟩
def rRepA (K : PySem.W.Frag) : R2 := fun x y H Q => rRep1 K x y H Q ∨ rRepT K x y H Q
theorem op_repA {X : Cx} : OpR X (binaryOp .Mult) (rRepA X.K) := op_rep1.or op_repT
theorem repT_ok {K : PySem.W.Frag} : BinOk K (rRepA K) repT := fun g H HF f x y d e rv a t u z Q k => by
  cases d <;> cases e <;> try cases z
  rename_i xs i
  · obtain ⟨hl, rfl⟩ := ite_some (show (if _ then some _ else none) = some rv from z)
    obtain ⟨p, vs, rfl, hp, rp⟩ := t.tup
    have hv := rp.length
    have e0 : ∀ n : Nat, (List.replicate n ([] : List PyData)).flatten = [] := fun n => by
      induction n with
      | zero => rfl
      | succ n ih => rw [List.replicate_succ, List.flatten_cons, ih]; rfl
    by_cases c : vs = [] ∨ i ≤ 1
    · refine .inl ⟨p, i, vs, rfl, u.int, a.sub.sqT hp, by omega, by omega, c, fun h => ?_, fun h1 h2 n hn => ?_⟩
      · rcases h with h | h
        · subst h
          cases rp
          rw [e0] at k
          exact k.now a (.tup hp .nil)
        · subst h
          have e1 : (List.replicate (1 : Int).toNat xs).flatten = xs := by
            show (List.replicate 1 xs).flatten = xs
            simp
          rw [e1] at k
          exact k.now a (.tup hp rp)
      · have e2 : i.toNat = 0 := by omega
        rw [e2] at k
        exact k.newT a .nil n hn
    · have hx : vs ≠ [] := fun q => c (.inl q)
      have hi : ¬ i ≤ 1 := fun q => c (.inr q)
      exact .inr ⟨p, i, vs, rfl, u.int, a.sub.sqT hp, hx, by omega, by omega, by rw [hv]; exact hl.2.2, fun n hn => k.newT a (rp.rep i.toNat) n hn⟩
end Dn
end
section
set_option maxHeartbeats 4000000
namespace Dn
open PySem PySem.Spec L2
mutual
theorem DR.dp {K : PySem.W.Frag} {H : Hp} : ∀ {v : V} {d : PyData}, DR K H v d → d.canLay0 = true → Dp K H v d
  | _, _, .non, _ => .non
  | _, _, .bl b, _ => .bl b
  | _, _, .int i, _ => .int i
  | _, _, .str x, _ => .str x
  | _, _, .lst h r, c => .lst (.inl (.inl h)) (DRs.dp r (by simpa [PyData.canLay0] using c))
  | _, _, .tup h r, c => .tup h (DRs.dp r (by simpa [PyData.canLay0] using c))
  | _, _, .dic _ _ _, c => by simp [PyData.canLay0] at c
  | _, _, .exc _ _ _ _, c => by simp [PyData.canLay0] at c
  | _, _, .dit _ _ _, c => by simp [PyData.canLay0] at c
theorem DRs.dp {K : PySem.W.Frag} {H : Hp} : ∀ {vs : List V} {ds : List PyData}, DRs K H vs ds → PyData.canLayAll0 ds = true → DpAll K H vs ds
  | _, _, .nil, _ => .nil
  | _, _, .cons h r, c => by
    have c2 := Bool.and_eq_true_iff.mp (show (PyData.canLay0 _ && PyData.canLayAll0 _) = true from c)
    exact .cons (DR.dp h c2.1) (DRs.dp r c2.2)
end
theorem Top.dp {K : PySem.W.Frag} {g : Gh} {H HF : Hp} {v : V} {d : PyData} (t : Top K g H HF v d) (l : Le HF H) (c : SeqAt.shaped d = true) : Dp K H v d := by
  have c0 := SeqAt.canLay_of_shaped c
  rcases t with h | ⟨p, vs, ds, rfl, rfl, _, h4, h5⟩
  · exact (h.mono l).dp c0
  · exact .lst (.inl (.inl h4)) ((h5.mono l).dp (by simpa [PyData.canLay0] using c0))
def eqD : Op2 := fun d e => if SeqAt.shaped d && SeqAt.shaped e then some (.dat (.bool (PyData.eqv d e))) else none
def neD : Op2 := fun d e => if SeqAt.shaped d && SeqAt.shaped e then some (.dat (.bool (!PyData.eqv d e))) else none
section
variable {K : PySem.W.Frag}
theorem eqD_ok : BinOk K (rEqD K) eqD := fun g H HF f x y d e rv a t u z Q k => by
  obtain ⟨c, rfl⟩ := ite_some z
  obtain ⟨c1, c2⟩ := Bool.and_eq_true_iff.mp c
  exact ⟨d, e, t.dp a.sub c1, u.dp a.sub c2, c1, c2, k.now a (.bl _)⟩
theorem neD_ok : BinOk K (rNeD K) neD := fun g H HF f x y d e rv a t u z Q k => by
  obtain ⟨c, rfl⟩ := ite_some z
  obtain ⟨c1, c2⟩ := Bool.and_eq_true_iff.mp c
  exact ⟨d, e, t.dp a.sub c1, u.dp a.sub c2, c1, c2, k.now a (.bl _)⟩
end
/-- texts of any signs -/
def eqS : Op2
  | .str i, .str j => some (.dat (.bool (decide (i = j))))
  | _, _ => none
def neS : Op2
  | .str i, .str j => some (.dat (.bool (!decide (i = j))))
  | _, _ => none
theorem dec_strV {i j : Str} : decide (V.str i = V.str j) = decide (i = j) := by
  rw [Bool.eq_iff_iff]
  simp
theorem eqS_ok {K : PySem.W.Frag} : BinOk K rEq eqS := fun g H HF f x y d e rv a t u z Q k => by
  cases d <;> cases e <;> try cases z
  rw [t.str, u.str]
  refine ⟨rfl, ?_⟩
  rw [dec_strV]
  exact k.now a (.bl _)
theorem neS_ok {K : PySem.W.Frag} : BinOk K rNe neS := fun g H HF f x y d e rv a t u z Q k => by
  cases d <;> cases e <;> try cases z
  rw [t.str, u.str]
  refine ⟨rfl, ?_⟩
  rw [dec_strV]
  exact k.now a (.bl _)
/-- a tuple of any things against the empty one -/
def rEqE (K : PySem.W.Frag) (x y : V) (H : Hp) (Q : VK) : Prop := ∃ p q vs, x = .ref p ∧ y = .ref q ∧ SqT K H p vs ∧ SqT K H q [] ∧ Q (.bl vs.isEmpty) H
def eqE : Op2
  | .tuple xs, .tuple [] => some (.dat (.bool xs.isEmpty))
  | _, _ => none
theorem eqE_ok {K : PySem.W.Frag} : BinOk K (rEqE K) eqE := fun g H HF f x y d e rv a t u z Q k => by
  cases d <;> try cases z
  rename_i xs
  cases e <;> try cases z
  rename_i ys
  cases ys <;> try cases z
  obtain ⟨p, vs, rfl, hp, rp⟩ := t.tup
  obtain ⟨q, ws, rfl, hq, rq⟩ := u.tup
  cases rq
  refine ⟨p, q, vs, rfl, rfl, a.sub.sqT hp, a.sub.sqT hq, ?_⟩
  have e : vs.isEmpty = xs.isEmpty := by
    have := rp.length
    cases vs <;> cases xs <;> simp at this <;> rfl
  rw [e]
  exact k.now a (.bl _)
def oEq : Op2 := fun d e => (eqS d e).or ((eqD d e).or (eqE d e))
def oNe : Op2 := fun d e => (neS d e).or (neD d e)
theorem oEq_ok {K : PySem.W.Frag} : BinOk K (fun x y H Q => rEq x y H Q ∨ rEqD K x y H Q ∨ rEqE K x y H Q) oEq := eqS_ok.or (eqD_ok.or eqE_ok)
theorem oNe_ok {K : PySem.W.Frag} : BinOk K (fun x y H Q => rNe x y H Q ∨ rNeD K x y H Q) oNe := neS_ok.or neD_ok
def cmpI (h : Int → Int → Bool) : Op2 := intsOp (fun _ _ => true) fun i j => .bool (h i j)
def oLt : Op2 := cmpI fun i j => decide (i < j)
def oLe : Op2 := cmpI fun i j => decide (i ≤ j)
def oGt : Op2 := cmpI fun i j => decide (j < i)
def oGe : Op2 := cmpI fun i j => decide (j ≤ i)
def intsOf : List PyData → Option (List Int)
  | [] => some []
  | .int i :: r => (intsOf r).map (i :: ·)
  | _ :: _ => none
def leN (ns ms : List Int) : Bool := Ob.lexAt (fun j => decide (ns.getD j 0 = ms.getD j 0)) (fun j => decide (ns.getD j 0 ≤ ms.getD j 0)) (decide (ns.length ≤ ms.length)) 0 (min ns.length ms.length)
def leT : Op2
  | .tuple xs, .tuple ys => match intsOf xs, intsOf ys with
    | some ns, some ms => some (.dat (.bool (leN ns ms)))
    | _, _ => none
  | _, _ => none
def oLeA : Op2 := fun d e => (oLe d e).or (leT d e)
theorem intsOf_some : ∀ {ds : List PyData} {ns : List Int}, intsOf ds = some ns → ds = ns.map PyData.int
  | [], ns, h => by cases h; rfl
  | d :: r, ns, h => by
    cases d <;> try cases h
    rename_i i
    cases q : intsOf r with
    | none =>
      simp only [intsOf, q] at h
      cases h
    | some ms =>
      simp only [intsOf, q] at h
      cases h
      rw [List.map_cons, ← intsOf_some q]
theorem DRs.toInts {K : PySem.W.Frag} {H : Hp} : ∀ {ns : List Int} {vs : List V}, DRs K H vs (ns.map PyData.int) → vs = ns.map V.int
  | [], _, .nil => rfl
  | n :: r, _, .cons h t => by
    cases h
    rw [List.map_cons, ← DRs.toInts t]
def flatD : PyData → Bool
  | .none => true
  | .bool _ => true
  | .int _ => true
  | .str _ => true
  | _ => false
theorem flat_v {K : PySem.W.Frag} {H : Hp} {v : V} {d : PyData} (r : DR K H v d) (h : flatD d = true) : flatV v = true := by
  cases r <;> first | rfl | cases h
theorem flat_vs {K : PySem.W.Frag} {H : Hp} : ∀ {vs : List V} {ds : List PyData}, DRs K H vs ds → ds.all flatD = true → vs.all flatV = true
  | _, _, .nil, _ => rfl
  | _, _, .cons h r, c => by
    rw [List.all_cons, Bool.and_eq_true] at c ⊢
    exact ⟨flat_v h c.1, flat_vs r c.2⟩
theorem flat_eq {K : PySem.W.Frag} {H : Hp} {v w : V} {d e : PyData} (r : DR K H v d) (s : DR K H w e) (h : flatD d = true) (h2 : flatD e = true) : eqV v w = PyData.eqv d e := by
  cases r <;> cases s <;> first
    | exact absurd h (by decide)
    | exact absurd h2 (by decide)
    | exact absurd h Bool.false_ne_true
    | exact absurd h2 Bool.false_ne_true
    | rfl
    | simp only [eqV, PyData.eqv]
theorem flat_any {K : PySem.W.Frag} {H : Hp} {w : V} {e : PyData} (s : DR K H w e) (h2 : flatD e = true) : ∀ {vs : List V} {ds : List PyData}, DRs K H vs ds → ds.all flatD = true → inV w vs = ds.any fun y => PyData.eqv y e
  | _, _, .nil, _ => rfl
  | _, _, .cons h r, c => by
    rw [List.all_cons, Bool.and_eq_true] at c
    have ih := flat_any s h2 r c.2
    unfold inV at ih ⊢
    rw [List.any_cons, List.any_cons, ih, flat_eq h s c.1 h2]
def seqOf : PyData → Option (List PyData)
  | .list xs => some xs
  | .tuple xs => some xs
  | _ => none
def oInF (neg : Bool) : Op2 := fun d e => match seqOf e with
  | some ys => if flatD d && ys.all flatD then some (.dat (.bool (if neg then !(ys.any fun y => PyData.eqv y d) else ys.any fun y => PyData.eqv y d))) else none
  | none => none
theorem Top.seq {K : PySem.W.Frag} {g : Gh} {H HF : Hp} {v : V} {e : PyData} {ds : List PyData} (t : Top K g H HF v e) (l : Le HF H) (h : seqOf e = some ds) : ∃ p vs, v = .ref p ∧ (SqL K H p vs ∨ SqT K H p vs) ∧ DRs K HF vs ds := by
  cases e <;> try cases h
  · obtain ⟨p, vs, e1, e2, e3⟩ := t.lst l
    exact ⟨p, vs, e1, .inl (.inl (.inl e2)), e3⟩
  · obtain ⟨p, vs, e1, e2, e3⟩ := t.tup
    exact ⟨p, vs, e1, .inr (l.sqT e2), e3⟩
theorem Top.flat {K : PySem.W.Frag} {g : Gh} {H HF : Hp} {v : V} {d : PyData} (t : Top K g H HF v d) (h : flatD d = true) : DR K HF v d := by
  rcases t with t | ⟨p, vs, ds, e1, e2, _⟩
  · exact t
  · subst e2
    cases h
theorem oInF_ok {K : PySem.W.Frag} {neg : Bool} : BinOk K (rIn K neg) (oInF neg) := fun g H HF f x y d e rv a t u z Q k => by
  unfold oInF at z
  cases q : seqOf e with
  | none =>
    simp only [q] at z
    cases z
  | some ys =>
    simp only [q] at z
    obtain ⟨c, rfl⟩ := ite_some z
    obtain ⟨c1, c2⟩ := Bool.and_eq_true_iff.mp c
    obtain ⟨p, vs, rfl, hp, rp⟩ := u.seq a.sub q
    have td := t.flat c1
    refine ⟨p, vs, rfl, hp, flat_v td c1, flat_vs rp c2, ?_⟩
    rw [flat_any td c1 rp c2]
    exact k.now a (.bl _)
def isNone : PyData → Bool
  | .none => true
  | _ => false
def oIsN (neg : Bool) : Op2 := fun d e => match e with
  | .none => some (.dat (.bool (if neg then !isNone d else isNone d)))
  | _ => none
theorem isN_ok {K : PySem.W.Frag} : BinOk K (fun x y H Q => y = .non ∧ Q (.bl (decide (x = .non))) H) (oIsN false) := fun g H HF f x y d e rv a t u z Q k => by
  cases e <;> try cases z
  refine ⟨u.non, ?_⟩
  have h : decide (x = V.non) = isNone d := by
    rcases t with t | ⟨p, vs, ds, e1, e2, _⟩
    · cases t <;> rfl
    · subst e1; subst e2; rfl
  rw [h]
  exact k.now a (.bl _)
def oIsB (neg : Bool) : Op2
  | .bool a, .bool b => some (.dat (.bool (if neg then !decide (a = b) else decide (a = b))))
  | _, _ => none
def oNeg : Op1
  | .int i => some (.dat (.int (-i)))
  | _ => none
theorem oNeg_ok {K : PySem.W.Frag} : UnOk K (rU fun i => .int (-i)) oNeg := fun g H HF f x d rv a t z Q k => by
  cases d <;> try cases z
  exact ⟨_, t.int, k.now a (.int _)⟩
def oAbs : Op1
  | .int i => some (.dat (.int (if i < 0 then -i else i)))
  | _ => none
def oInt : Op1
  | .int i => some (.dat (.int i))
  | .bool b => some (.dat (.int (if b then 1 else 0)))
  | _ => none
def oLen : Op1 := fun d => (seqOf d).map fun ys => .dat (.int ys.length)
def oTuple : Op1 := fun d => (seqOf d).map fun ys => .dat (.tuple ys)
def oList : Op1 := fun d => (seqOf d).map fun ys => .own ys
def oMax : Op2 := intsOp (fun _ _ => true) fun i j => .int (if j > i then j else i)
def oMin : Op2 := intsOp (fun _ _ => true) fun i j => .int (if j < i then j else i)
def oSum : Op1 := fun d => match d with
  | .list xs => (intsOf xs).map fun ns => .dat (.int ns.sum)
  | _ => none
section
variable {X : Cx} {W : Wish} {fa fb : Ex} {id : String} {r : List V → Hp → VK → Prop} {x : Str} {p pos : Pos} {e e2 : Expr}
theorem de_call1 {o : Op1} (hc : CallR X (.builtin id) r) (hb : UnOk X.K (fun v H Q => r [v] H Q) o) (hg : Gl X x) (hm : X.mg x = none) (hv : bootBuiltins x = some (.builtin id)) (ha : DE X W e fa)
    (hn : x ≠ "__name__" := by decide) (hdb : (x == ("__debug__" : Str)) = false := by decide) (he : starEach [e] X.env = (false, eval e X.env) :: starEach [] X.env := by rfl) : DE X W (.Call (.Name x p) [e] [] pos) (cUn o fa) :=
  pe_mono (pe_callB hc hg hm hv (pa_cons ha pa_nil he) hn hdb he rfl) fun _ _ _ h => un_read (r := fun v H Q => r [v] H Q) hb h
theorem de_call2 {o : Op2} (hc : CallR X (.builtin id) r) (hb : BinOk X.K (fun v w H Q => r [v, w] H Q) o) (hg : Gl X x) (hm : X.mg x = none) (hv : bootBuiltins x = some (.builtin id)) (ha : DE X W e fa) (hd : DE X W e2 fb)
    (hn : x ≠ "__name__" := by decide) (hdb : (x == ("__debug__" : Str)) = false := by decide) (he : starEach [e, e2] X.env = (false, eval e X.env) :: starEach [e2] X.env := by rfl)
    (he2 : starEach [e2] X.env = (false, eval e2 X.env) :: starEach [] X.env := by rfl) (hpl : (backTo pos (starEach [e2] X.env)).any (·.1) = false := by rfl) : DE X W (.Call (.Name x p) [e, e2] [] pos) (cBin o fa fb) :=
  pe_mono (pe_callB hc hg hm hv (pa_cons ha (pa_cons hd pa_nil he2) he) hn hdb he hpl) fun _ _ _ h => bin_read (r := fun v w H Q => r [v, w] H Q) hb h
theorem de_callTy1 {o : Op1} {T : String} (hc : CallR X (.type T) r) (hb : UnOk X.K (fun v H Q => r [v] H Q) o) (hg : Gl X x) (hm : X.mg x = none) (hv : bootBuiltins x = some (.type T)) (ha : DE X W e fa)
    (hn : x ≠ "__name__" := by decide) (hdb : (x == ("__debug__" : Str)) = false := by decide) (he : starEach [e] X.env = (false, eval e X.env) :: starEach [] X.env := by rfl) : DE X W (.Call (.Name x p) [e] [] pos) (cUn o fa) :=
  pe_mono (pe_callTy hc hg hm hv (pa_cons ha pa_nil he) hn hdb he rfl) fun _ _ _ h => un_read (r := fun v H Q => r [v] H Q) hb h
end
section
variable {K : PySem.W.Frag}
theorem oAbs_ok : UnOk K (fun v H Q => ∃ i, [v] = [V.int i] ∧ Q (.int (if i < 0 then -i else i)) H) oAbs := fun g H HF f x d rv a t z Q k => by
  cases d <;> try cases z
  have h := t.int
  subst h
  exact ⟨_, rfl, k.now a (.int _)⟩
theorem oInt_ok : UnOk K (fun v H Q => (∃ i, [v] = [V.int i] ∧ Q (.int i) H) ∨ ∃ b, [v] = [V.bl b] ∧ Q (.int (if b then 1 else 0)) H) oInt := fun g H HF f x d rv a t z Q k => by
  cases d <;> try cases z
  · have h := t.bl
    subst h
    exact .inr ⟨_, rfl, k.now a (.int _)⟩
  · have h := t.int
    subst h
    exact .inl ⟨_, rfl, k.now a (.int _)⟩
theorem oLen_ok : UnOk K (fun v H Q => ∃ p ys, [v] = [V.ref p] ∧ (SqL K H p ys ∨ SqT K H p ys) ∧ Q (.int ys.length) H) oLen := fun g H HF f x d rv a t z Q k => by
  unfold oLen at z
  cases q : seqOf d with
  | none => rw [q] at z; cases z
  | some ys =>
    rw [q] at z
    cases z
    obtain ⟨p, vs, rfl, hp, rp⟩ := t.seq a.sub q
    refine ⟨p, vs, rfl, hp, ?_⟩
    rw [rp.length]
    exact k.now a (.int _)
theorem oTuple_ok : UnOk K (fun v H Q => ∃ p ys, [v] = [V.ref p] ∧ ((SqL K H p ys ∧ ∀ l, H l = none → Q (.ref l) (upd H l (.tup ys))) ∨ (SqT K H p ys ∧ Q (.ref p) H))) oTuple := fun g H HF f x d rv a t z Q k => by
  cases d <;> try cases z
  · obtain ⟨p, vs, rfl, hp, rp⟩ := t.lst a.sub
    exact ⟨p, vs, rfl, .inl ⟨.inl (.inl hp), fun l hl => k.newT a rp l hl⟩⟩
  · obtain ⟨p, vs, rfl, hp, rp⟩ := t.tup
    exact ⟨p, vs, rfl, .inr ⟨a.sub.sqT hp, k.now a (.tup hp rp)⟩⟩
theorem oMax_ok : BinOk K (fun v w H Q => ∃ i j, [v, w] = [V.int i, V.int j] ∧ Q (.int (if j > i then j else i)) H) oMax := fun g H HF f x y d e rv a t u z Q k => by
  cases d <;> cases e <;> try cases z
  have h := t.int
  have h2 := u.int
  subst h
  subst h2
  exact ⟨_, _, rfl, k.now a (.int _)⟩
theorem oSum_ok : UnOk K (fun v H Q => rSum K [v] H Q) oSum := fun g H HF f x d rv a t z Q k => by
  cases d <;> try cases z
  rename_i xs
  unfold oSum at z
  cases q : intsOf xs with
  | none => simp only [q] at z; cases z
  | some ns =>
    simp only [q] at z
    cases z
    have e1 := intsOf_some q
    subst e1
    obtain ⟨p, vs, rfl, hp, rp⟩ := t.lst a.sub
    have v1 := rp.toInts
    subst v1
    exact ⟨p, ns, rfl, .inl (.inl hp), k.now a (.int _)⟩
end
theorem at_get {K : PySem.W.Frag} {H : Hp} {vs : List V} {ds : List PyData} {i : Int} {d : PyData} (r : DRs K H vs ds) (h : atI ds i = some d) : ∃ v, atI vs i = some v ∧ DR K H v d := by
  unfold atI at h ⊢
  rw [r.length]
  cases q : ixN ds.length i with
  | none => rw [q] at h; cases h
  | some j =>
    rw [q] at h
    exact r.get h
def oIx : Op2
  | .list xs, .int i => (atI xs i).map .dat
  | .tuple xs, .int i => (atI xs i).map .dat
  | .str x, .int i => if x.length ≤ 100000 then (atI x.cps.toList i).map fun c => .dat (.str ⟨#[c]⟩) else none
  | _, _ => none
theorem map_dat {o : Option PyData} {rv : RV} (h : o.map RV.dat = some rv) : ∃ d, o = some d ∧ rv = .dat d := by
  cases o with
  | none => cases h
  | some d => exact ⟨d, rfl, (Option.some.inj h).symm⟩
theorem oIx_ok {K : PySem.W.Frag} : BinOk K (rIx K) oIx := fun g H HF f x y d e rv a t u z Q k => by
  cases d <;> cases e <;> try cases z
  · rename_i s i
    have h := t.str
    have h2 := u.int
    subst h
    subst h2
    unfold oIx at z
    simp only at z
    split at z
    · rename_i hl
      cases q : atI s.cps.toList i with
      | none => rw [q] at z; cases z
      | some c =>
        rw [q] at z
        cases z
        exact .inr (.inr ⟨s, i, c, rfl, rfl, line5 hl, q, k.now a (.str _)⟩)
    · cases z
  · rename_i xs i
    obtain ⟨d, q, rfl⟩ := map_dat z
    obtain ⟨p, vs, rfl, hp, rp⟩ := t.lst a.sub
    obtain ⟨v, q2, rv⟩ := at_get rp q
    exact .inl ⟨p, vs, i, v, rfl, u.int, .inl (.inl hp), q2, k.now a rv⟩
  · rename_i xs i
    obtain ⟨d, q, rfl⟩ := map_dat z
    obtain ⟨p, vs, rfl, hp, rp⟩ := t.tup
    obtain ⟨v, q2, rv⟩ := at_get rp q
    exact .inr (.inl ⟨p, vs, i, v, rfl, u.int, a.sub.sqT hp, q2, k.now a rv⟩)
theorem de_ix {X : Cx} {W : Wish} {a b : Expr} {pos : Pos} {fa fb : Ex} (ha : DE X W a fa) (hb : DE X W b fb) (hs : PlainIx b) : DE X W (.Subscript a b pos) (cBin oIx fa fb) :=
  pe_mono (pe_ix ix_seq ha hb hs) fun _ _ _ h => bin_read oIx_ok h
def cutD (ds : List PyData) (lo hi : Option Int) : List PyData := (ds.drop (HT.sIx ds.length 0 lo)).take (HT.sIx ds.length ds.length hi - HT.sIx ds.length 0 lo)
theorem cut_rel {K : PySem.W.Frag} {H : Hp} {vs : List V} {ds : List PyData} (r : DRs K H vs ds) (lo hi : Option Int) : DRs K H (cutV vs lo hi) (cutD ds lo hi) := by
  unfold cutV cutD
  rw [r.length]
  exact (r.drop _).take _
def oSl (lo hi : Option Int) : Op1
  | .list xs => some (.own (cutD xs lo hi))
  | .tuple xs => some (.dat (.tuple (cutD xs lo hi)))
  | _ => none
theorem cut_whole {ds : List PyData} {lo hi : Option Int} (h : HT.sIx ds.length 0 lo = 0 ∧ HT.sIx ds.length ds.length hi = ds.length) : cutD ds lo hi = ds := by
  unfold cutD
  rw [h.1, h.2]
  simp
def partX : Option Ex → Rho → Feed → (Option Int → Feed → R RV) → R RV
  | none, _, f, k => k none f
  | some e, ρ, f, k => pk (e ρ f) fun d f1 => match d with
    | .int i => k (some i) f1
    | _ => .no
def cSl (a : Ex) (lo hi : Option Ex) : Ex := fun ρ f => pk (a ρ f) fun x f1 => partX lo ρ f1 fun i f2 => partX hi ρ f2 fun j f3 => give (oSl i j x) f3
def partT (K : PySem.W.Frag) (mg : Str → Option Value) (W : Wish) : Option Ex → TO
  | none => tNoPart
  | some e => tPart (tD K mg W e)
section
variable {K : PySem.W.Frag} {mg : Str → Option Value} {W : Wish} {g : Gh} {σ : St} {H HF : Hp} {ρ : Rho} {f : Feed}
theorem part_read {o : Option Ex} {k : Option Int → Feed → R RV} {P : RV → Feed → Prop} {Q : Option Int → Hp → Prop} (r : Rel K g σ H HF ρ f) (h : ROk K mg g H HF (W σ) (partX o ρ f k) P)
    (c : ∀ i f1 G GF, Rel K g σ G GF ρ f1 → Step g H HF G GF → ROk K mg g G GF (W σ) (k i f1) P → Q i G) : partT K mg W o σ H Q := by
  cases o with
  | none => exact c none f H HF r (Step.refl r.sub) h
  | some e =>
    refine tD_pk r h fun d f1 v G GF r1 s t q => ?_
    cases d <;> try exact (show False from q).elim
    rename_i i
    exact ⟨i, t.int, c (some i) f1 G GF r1 s q⟩
theorem sl_read {fa : Ex} {lo hi : Option Ex} {Q : VK} (h : tD K mg W (cSl fa lo hi) σ H Q) : tSl (fun x lo hi H Q => rSlL K x lo hi H Q ∨ rSlA K x lo hi H Q) (tD K mg W fa) (partT K mg W lo) (partT K mg W hi) σ H Q := by
  obtain ⟨g, HF, ρ, f, rel, q⟩ := h
  refine tD_pk rel q fun d f1 x G GF r1 s1 t1 q1 => part_read r1 q1 fun i f2 I IF r2 s2 q2 => part_read r2 q2 fun j f3 J JF r3 s3 q3 => ?_
  obtain ⟨rv, z, k⟩ := give_end r3.feed (s1.trans r1.feed (s2.trans r2.feed s3)) q3
  have t3 := t1.step (s2.trans r2.feed s3)
  have a : At K g J JF f3 := ⟨r3.sub, r3.feed⟩
  cases d <;> try cases z
  · rename_i xs
    obtain ⟨p, vs, rfl, hp, rp⟩ := t3.lst a.sub
    exact .inl ⟨p, vs, rfl, .inl (.inl hp), fun l hl => k.newL a (cut_rel rp _ _) l hl⟩
  · rename_i xs
    obtain ⟨p, vs, rfl, hp, rp⟩ := t3.tup
    refine .inr ⟨p, vs, rfl, a.sub.sqT hp, fun hw => ?_, fun _ l hl => k.newT a (cut_rel rp _ _) l hl⟩
    rw [rp.length] at hw
    rw [cut_whole hw] at k
    exact k.now a (.tup hp rp)
end
theorem de_slice {X : Cx} {W : Wish} {e : Expr} {fa : Ex} {lo hi : Option Expr} {xl xh : Option Ex} {p2 pos : Pos} (he : DE X W e fa) (hl : PO X lo (partT X.K X.mg W xl)) (hh : PO X hi (partT X.K X.mg W xh)) :
    DE X W (.Subscript e (.Slice lo hi none p2) pos) (cSl fa xl xh) := pe_mono (pe_slice (sl_list.or sl_tupA) he hl hh) fun _ _ _ h => sl_read h
theorem do_none {X : Cx} {W : Wish} : PO X none (partT X.K X.mg W none) := po_none
theorem do_some {X : Cx} {W : Wish} {e : Expr} {x : Ex} (h : DE X W e x) : PO X (some e) (partT X.K X.mg W (some x)) := po_some h
def cArgs : List Ex → Rho → Feed → R (List PyData)
  | [], _, f => .ok [] f
  | x :: xs, ρ, f => dt (x ρ f) fun d f1 => (cArgs xs ρ f1).bind fun ds f2 => .ok (d :: ds) f2
def argT (K : PySem.W.Frag) (mg : Str → Option Value) (W : Wish) : List Ex → TA
  | [] => tNil
  | x :: xs => tCons (tD K mg W x) (argT K mg W xs)
section
variable {K : PySem.W.Frag} {mg : Str → Option Value} {W : Wish}
theorem bind_bind {α β γ : Type} (r : R α) (k : α → Feed → R β) (l : β → Feed → R γ) : (r.bind k).bind l = r.bind fun a f => (k a f).bind l := by cases r <;> rfl
theorem dt_bind {β γ : Type} (r : R RV) (k : PyData → Feed → R β) (l : β → Feed → R γ) : (dt r k).bind l = dt r fun d f => (k d f).bind l := by
  cases r with
  | no => rfl
  | ex c v f => rfl
  | ok a f =>
    unfold dt R.bind
    simp only
    cases a.data <;> rfl
theorem args_read {β : Type} {P : β → Feed → Prop} : ∀ (xs : List Ex) {k : List PyData → Feed → R β} {g : Gh} {σ : St} {H HF : Hp} {ρ : Rho} {f : Feed} {Q : List V → Hp → Prop}, Rel K g σ H HF ρ f →
    ROk K mg g H HF (W σ) ((cArgs xs ρ f).bind k) P → (∀ ds f1 vs G GF, Rel K g σ G GF ρ f1 → Step g H HF G GF → DRs K GF vs ds → ROk K mg g G GF (W σ) (k ds f1) P → Q vs G) → argT K mg W xs σ H Q
  | [], k, g, σ, H, HF, ρ, f, Q, r, h, c => c [] f [] H HF r (Step.refl r.sub) .nil h
  | x :: xs, k, g, σ, H, HF, ρ, f, Q, r, h, c => by
    have h2 : ROk K mg g H HF (W σ) (dt (x ρ f) fun d f1 => ((cArgs xs ρ f1).bind fun ds f2 => .ok (d :: ds) f2).bind k) P := by
      rw [← dt_bind]
      exact h
    refine tD_dt r h2 fun d f1 v G GF r1 s1 dr q1 => ?_
    have q2 : ROk K mg g G GF (W σ) ((cArgs xs ρ f1).bind fun ds f2 => k (d :: ds) f2) P := by
      rw [bind_bind] at q1
      exact q1
    exact args_read xs r1 q2 fun ds f2 vs I IF r2 s2 drs q3 => c (d :: ds) f2 (v :: vs) I IF r2 (s1.trans r1.feed s2) (.cons (dr.mono s2.le) drs) q3
end
def cTup (xs : List Ex) : Ex := fun ρ f => (cArgs xs ρ f).bind fun ds f1 => if ds.length ≤ 100000 then .ok (.dat (.tuple ds)) f1 else .no
def cLst (xs : List Ex) : Ex := fun ρ f => (cArgs xs ρ f).bind fun ds f1 => if ds.length ≤ 100000 then .ok (.own ds) f1 else .no
section
variable {X : Cx} {W : Wish} {es : List Expr} {xs : List Ex} {pos : Pos}
abbrev DA (X : Cx) (W : Wish) (es : List Expr) (xs : List Ex) : Prop := PA X es (argT X.K X.mg W xs)
theorem da_nil : DA X W [] [] := pa_nil
theorem da_cons {e : Expr} {x : Ex} (h : DE X W e x) (r : DA X W es xs) (hs : starEach (e :: es) X.env = (false, eval e X.env) :: starEach es X.env := by rfl) : DA X W (e :: es) (x :: xs) := pa_cons h r hs
theorem de_tup {x1} (h : DA X W es xs) : DE X W (.Tuple es x1 pos) (cTup xs) := pe_mono (pe_tup h) fun σ H Q ⟨g, HF, ρ, f, rel, q⟩ =>
  args_read xs rel q fun ds f1 vs G GF r1 s1 drs q1 => by
    by_cases c : ds.length ≤ 100000
    · rw [if_pos c] at q1
      obtain ⟨rv, z, k⟩ := give_end (x := some (.dat (.tuple ds))) r1.feed s1 q1
      cases z
      exact ⟨by rw [drs.length]; exact line5 c, fun p hp => k.newT ⟨r1.sub, r1.feed⟩ drs p hp⟩
    · rw [if_neg c] at q1
      exact (show False from q1).elim
theorem de_lst (h : DA X W es xs) : DE X W (.List es pos) (cLst xs) := pe_mono (pe_lst h) fun σ H Q ⟨g, HF, ρ, f, rel, q⟩ =>
  args_read xs rel q fun ds f1 vs G GF r1 s1 drs q1 => by
    by_cases c : ds.length ≤ 100000
    · rw [if_pos c] at q1
      obtain ⟨rv, z, k⟩ := give_end (x := some (.own ds)) r1.feed s1 q1
      cases z
      exact ⟨by rw [drs.length]; exact line5 c, fun p hp => k.newL ⟨r1.sub, r1.feed⟩ drs p hp⟩
    · rw [if_neg c] at q1
      exact (show False from q1).elim
end
end Dn
end
section
set_option maxHeartbeats 4000000
namespace Dn
open PySem PySem.Spec L2
abbrev Tx := Rho → Feed → R Bool
def tDT (K : PySem.W.Frag) (mg : Str → Option Value) (W : Wish) (t : Tx) : TT := fun σ H Q => ∃ g HF ρ f, Rel K g σ H HF ρ f ∧ ROk K mg g H HF (W σ) (t ρ f) fun b f1 => ∀ G GF, Step g H HF G GF → FeedAt g G GF f1 → Q b G
abbrev DT (X : Cx) (W : Wish) (e : Expr) (t : Tx) : Prop := PT X e (tDT X.K X.mg W t)
def cT (e : Ex) : Tx := fun ρ f => pk (e ρ f) fun d f1 => match d with
  | .bool b => .ok b f1
  | _ => .no
def tAndX (t u : Tx) : Tx := fun ρ f => (t ρ f).bind fun b f1 => if b = true then u ρ f1 else .ok false f1
def tOrX (t u : Tx) : Tx := fun ρ f => (t ρ f).bind fun b f1 => if b = true then .ok true f1 else u ρ f1
def tNotX (t : Tx) : Tx := fun ρ f => (t ρ f).bind fun b f1 => .ok (!b) f1
section
variable {K : PySem.W.Frag} {mg : Str → Option Value} {W : Wish} {g : Gh} {σ : St} {H HF : Hp} {ρ : Rho} {f : Feed} {t u : Tx} {e : Ex}
theorem tDT_bind {β : Type} {k : Bool → Feed → R β} {P : β → Feed → Prop} {Q : Bool → Hp → Prop} (r : Rel K g σ H HF ρ f) (h : ROk K mg g H HF (W σ) ((t ρ f).bind k) P)
    (c : ∀ b f1 G GF, Rel K g σ G GF ρ f1 → Step g H HF G GF → ROk K mg g G GF (W σ) (k b f1) P → Q b G) : tDT K mg W t σ H Q :=
  ⟨g, HF, ρ, f, r, h.of_bind.mono fun b f1 q G GF s hf => c b f1 G GF (r.step s hf) s (q.later hf s)⟩
/-- an expression as a test -/
theorem test_read {Q : Bool → Hp → Prop} (h : tDT K mg W (cT e) σ H Q) : tD K mg W e σ H fun x H1 => ∃ b, x = .bl b ∧ Q b H1 := by
  obtain ⟨g, HF, ρ, f, rel, q⟩ := h
  refine tD_pk rel q fun d f1 v G GF r1 s1 t1 q1 => ?_
  cases d <;> try exact (show False from q1).elim
  rename_i b
  exact ⟨b, t1.bl, (show ∀ I IF, Step g H HF I IF → FeedAt g I IF f1 → Q b I from q1) G GF s1 r1.feed⟩
end
section
variable {X : Cx} {W : Wish} {a b c : Expr} {pos : Pos} {fa fb fc : Ex} {t u : Tx} {rest : List Expr}
theorem pt_mono {e : Expr} {t t2 : TT} (h : PT X e t) (i : ∀ σ H Q, t2 σ H Q → t σ H Q) : PT X e t2 := ⟨fun pins s σ H Q I q => h.run pins s σ H Q I (i σ H Q q)⟩
theorem pw_mono {e : Expr} {t t2 : TT} (h : PW X e t) (i : ∀ σ H Q, t2 σ H Q → t σ H Q) : PW X e t2 := ⟨fun wh pins s σ H Q I q => h.run wh pins s σ H Q I (i σ H Q q)⟩
abbrev DW (X : Cx) (W : Wish) (e : Expr) (t : Tx) : Prop := PW X e (tDT X.K X.mg W t)
theorem dt_val {e : Expr} {x : Ex} (h : DE X W e x) (he : ∀ whole, isTrue e X.env whole = (do let v ← whole; standAt e.pos; holding [v] (truthy v)) := by intro _; rfl) : DT X W e (cT x) :=
  pt_mono (pt_val h he) fun _ _ _ q => test_read q
theorem dt_cmp {op : CmpOp} {r : R2} {o : Op2} (ho : OpR X (compareOp op) r) (hb : BinOk X.K r o) (ha : DE X W a fa) (hc : DE X W b fb) (hm : behindInMarks op b = false) : DT X W (.Compare a [op] [b] pos) (cT (cBin o fa fb)) :=
  pt_mono (pt_cmpR ho ha hc hm) fun _ _ _ q => bin_read hb (test_read q)
theorem dt_not (h : DT X W a t) : DT X W (.UnaryOp .Not a pos) (tNotX t) := pt_mono (pt_not h) fun σ H Q ⟨g, HF, ρ, f, rel, q⟩ =>
  tDT_bind rel q fun b f1 G GF r1 s1 q1 => (show ∀ I IF, Step g H HF I IF → FeedAt g I IF f1 → Q (!b) I from q1) G GF s1 r1.feed
theorem dw_and1 (h : DT X W a t) : DW X W (.BoolOp .And [a] pos) t := pw_and1 h
theorem dw_or1 (h : DT X W a t) : DW X W (.BoolOp .Or [a] pos) t := pw_or1 h
theorem dw_and (h : DT X W a t) (h2 : DW X W (.BoolOp .And (b :: rest) pos) u) : DW X W (.BoolOp .And (a :: b :: rest) pos) (tAndX t u) := pw_mono (pw_and h h2) fun σ H Q ⟨g, HF, ρ, f, rel, q⟩ =>
  tDT_bind rel q fun c f1 G GF r1 s1 q1 => by
    cases c with
    | true =>
      refine iteT ⟨g, GF, ρ, f1, r1, ?_⟩
      exact ROk.mono (show ROk X.K X.mg g G GF (W σ) (u ρ f1) _ from q1) fun b f2 k I IF s hf => k I IF (s1.trans r1.feed s) hf
    | false => exact iteF ((show ∀ I IF, Step g H HF I IF → FeedAt g I IF f1 → Q false I from q1) G GF s1 r1.feed)
theorem dw_or (h : DT X W a t) (h2 : DW X W (.BoolOp .Or (b :: rest) pos) u) : DW X W (.BoolOp .Or (a :: b :: rest) pos) (tOrX t u) := pw_mono (pw_or h h2) fun σ H Q ⟨g, HF, ρ, f, rel, q⟩ =>
  tDT_bind rel q fun c f1 G GF r1 s1 q1 => by
    cases c with
    | false =>
      refine iteF ⟨g, GF, ρ, f1, r1, ?_⟩
      exact ROk.mono (show ROk X.K X.mg g G GF (W σ) (u ρ f1) _ from q1) fun b f2 k I IF s hf => k I IF (s1.trans r1.feed s) hf
    | true => exact iteT ((show ∀ I IF, Step g H HF I IF → FeedAt g I IF f1 → Q true I from q1) G GF s1 r1.feed)
theorem dt_w (h : DW X W a t) : DT X W a t := h.pt
def cAnd (a b : Ex) : Ex := fun ρ f => pk (a ρ f) fun d f1 => match d with
  | .bool true => b ρ f1
  | .bool false => .ok (.dat (.bool false)) f1
  | _ => .no
def cOr (a b : Ex) : Ex := fun ρ f => pk (a ρ f) fun d f1 => match d with
  | .bool true => .ok (.dat (.bool true)) f1
  | .bool false => b ρ f1
  | _ => .no
def cNot : Op1
  | .bool b => some (.dat (.bool (!b)))
  | _ => none
theorem fin_later {K : PySem.W.Frag} {mg : Str → Option Value} {g : Gh} {σ : St} {H HF G GF : Hp} {f : Feed} {E : XK} {Q : VK} {r : R RV} (hf : FeedAt g G GF f) (s : Step g H HF G GF) (h : ROk K mg g G GF E r (Fin K g σ H HF Q)) : ROk K mg g G GF E r (Fin K g σ G GF Q) :=
  h.mono fun rv f1 k v I IF s2 h2 rr => k v I IF (s.trans hf s2) h2 (rr.back hf s)
theorem de_and (ha : DE X W a fa) (hb : DE X W (.BoolOp .And (b :: rest) pos) fb) : DE X W (.BoolOp .And (a :: b :: rest) pos) (cAnd fa fb) := pe_mono (pe_and ha hb) fun σ H Q ⟨g, HF, ρ, f, rel, q⟩ =>
  tD_pk rel q fun d f1 v G GF r1 s1 t1 q1 => by
    cases d <;> try exact (show False from q1).elim
    rename_i c
    refine ⟨c, t1.bl, ?_⟩
    cases c with
    | true => exact iteT ⟨g, GF, ρ, f1, r1, fin_later r1.feed s1 q1⟩
    | false => exact iteF ((show Fin X.K g σ H HF Q (.dat (.bool false)) f1 from q1) (.bl false) G GF s1 r1.feed (.bl false))
theorem de_one {op} {x : Ex} (h : DE X W a x) : DE X W (.BoolOp op [a] pos) x := pe_one h
theorem cNot_ok {K : PySem.W.Frag} : UnOk K (fun x H Q => ∃ c, x = .bl c ∧ Q (.bl (!c)) H) cNot := fun g H HF f x d rv a t z Q k => by
  cases d <;> try cases z
  exact ⟨_, t.bl, k.now a (.bl _)⟩
theorem de_not (h : DE X W a fa) : DE X W (.UnaryOp .Not a pos) (cUn cNot fa) := pe_mono (pe_not h) fun _ _ _ q => un_read (r := fun x H Q => ∃ c, x = .bl c ∧ Q (.bl (!c)) H) cNot_ok q
def cIf (t : Tx) (a b : Ex) : Ex := fun ρ f => (t ρ f).bind fun c f1 => if c = true then a ρ f1 else b ρ f1
theorem de_if (hc : DT X W c t) (ha : DE X W a fa) (hb : DE X W b fb) : DE X W (.IfExp c a b pos) (cIf t fa fb) := pe_mono (pe_ifExp hc ha hb) fun σ H Q ⟨g, HF, ρ, f, rel, q⟩ =>
  tDT_bind rel q fun k f1 G GF r1 s1 q1 => by
    cases k with
    | true => exact iteT ⟨g, GF, ρ, f1, r1, fin_later r1.feed s1 q1⟩
    | false => exact iteF ⟨g, GF, ρ, f1, r1, fin_later r1.feed s1 q1⟩
/-- a op b op c -/
def cChain (o o2 : Op2) (a b c : Ex) : Ex := fun ρ f => pk (a ρ f) fun x f1 => pk (b ρ f1) fun y f2 => match o x y with
  | some (.dat (.bool true)) => pk (c ρ f2) fun z f3 => give (o2 y z) f3
  | some (.dat (.bool false)) => .ok (.dat (.bool false)) f2
  | _ => .no
theorem chain_read {K : PySem.W.Frag} {mg : Str → Option Value} {r r2 : R2} {o o2 : Op2} (ho : BinOk K r o) (ho2 : BinOk K r2 o2) {σ : St} {H : Hp} {Q : VK} (h : tD K mg W (cChain o o2 fa fb fc) σ H Q) : tChain r r2 (tD K mg W fa) (tD K mg W fb) (tD K mg W fc) σ H Q := by
  obtain ⟨g, HF, ρ, f, rel, q⟩ := h
  refine tD_pk rel q fun d f1 x G GF r1 s1 t1 q1 => tD_pk r1 q1 fun e f2 y I IF r3 s2 t2 q2 => ?_
  cases z : o d e with
  | none =>
    simp only [z] at q2
    exact (show False from q2).elim
  | some rv =>
    refine ho g I IF f2 x y d e rv ⟨r3.sub, r3.feed⟩ (t1.step s2) t2 z _ fun v J JF s3 h3 rr => ?_
    cases rv with
    | dat w =>
      cases w with
      | bool k =>
        have ev : v = .bl k := by
          cases (show DR K JF v (.bool k) from rr)
          rfl
        refine ⟨k, ev, ?_⟩
        have r4 := r3.step s3 h3
        have s4 := s1.trans r1.feed (s2.trans r3.feed s3)
        cases k with
        | true =>
          simp only [z] at q2
          refine iteT (tD_pk r4 (q2.later h3 s3) fun w f3 u L LF r5 s5 t5 q5 => ?_)
          obtain ⟨rv2, z2, k2⟩ := give_end r5.feed (s4.trans h3 s5) q5
          exact ho2 g L LF f3 y u e w rv2 ⟨r5.sub, r5.feed⟩ ((t2.step s3).step s5) t5 z2 Q k2
        | false =>
          simp only [z] at q2
          exact iteF ((show Fin K g σ H HF Q (.dat (.bool false)) f2 from q2) (.bl false) J JF s4 h3 (.bl false))
      | _ =>
        simp only [z] at q2
        exact (show False from q2).elim
    | _ =>
      simp only [z] at q2
      exact (show False from q2).elim
theorem de_chain {op op2 : CmpOp} {r r2 : R2} {o o2 : Op2} (ho : OpR X (compareOp op) r) (hb : BinOk X.K r o) (ho2 : OpR X (compareOp op2) r2) (hb2 : BinOk X.K r2 o2) (ha : DE X W a fa) (hc : DE X W b fb) (hd : DE X W c fc)
    (hm : lastMarks [op, op2] [b, c] = false := by with_unfolding_all rfl) : DE X W (.Compare a [op, op2] [b, c] pos) (cChain o o2 fa fb fc) :=
  pe_mono (pe_chain ho ho2 ha hc hd hm) fun _ _ _ q => chain_read hb hb2 q
theorem dt_chain {op op2 : CmpOp} {r r2 : R2} {o o2 : Op2} (ho : OpR X (compareOp op) r) (hb : BinOk X.K r o) (ho2 : OpR X (compareOp op2) r2) (hb2 : BinOk X.K r2 o2) (ha : DE X W a fa) (hc : DE X W b fb) (hd : DE X W c fc)
    (hm : lastMarks [op, op2] [b, c] = false := by with_unfolding_all rfl) : DT X W (.Compare a [op, op2] [b, c] pos) (cT (cChain o o2 fa fb fc)) :=
  pt_mono (pt_chain ho ho2 ha hc hd hm) fun _ _ _ q => chain_read hb hb2 (test_read q)
end
def RV.up : RV → RV
  | .lent _ ds => .own ds
  | x => x
structure RetOk (K : PySem.W.Frag) (g : Gh) (G GF : Hp) (f : Feed) (v : V) (rv : RV) : Prop where
  sub : Le GF G
  feed : FeedAt g G GF f
  ext : ∀ a o, a ≠ g.fa → g.H0 a = some o → G a = some o
  le : Le g.HF0 GF
  new : ∀ a, Mo g.H0 a → g.HF0 a = none → GF a = none
  val : RR K g [] g.H0 G GF v rv.up
def FinS (K : PySem.W.Frag) (g : Gh) (D : Ends) : Ctl → Feed → Prop
  | .nx ρ, f => ∀ σ G GF, Rel K g σ G GF ρ f → D.nx σ G
  | .bk ρ, f => ∀ σ G GF, Rel K g σ G GF ρ f → D.bk σ G
  | .ct ρ, f => ∀ σ G GF, Rel K g σ G GF ρ f → D.ct σ G
  | .rt rv, f => ∀ v G GF, RetOk K g G GF f v rv → D.rt v G
/-- what is wanted of a statement's outcome; an error does not ask where it came from -/
def XF (K : PySem.W.Frag) (mg : Str → Option Value) (g : Gh) (E : XK) {α : Type} (r : R α) (P : α → Feed → Prop) : Prop := match r with
  | .no => False
  | .ok a f => P a f
  | .ex c vs f => ∀ (C : Addr) (od : Option Addr) (G GF : Hp), mg c = some (.ref C) → RetOk K g G GF f .non (.dat .none) → Xd K G GF od vs → E (.ref C) od G
def tDS (K : PySem.W.Frag) (mg : Str → Option Value) (E : XK) (s : Sm) : TS := fun D σ H => ∃ g HF ρ f, Rel K g σ H HF ρ f ∧ XF K mg g E (s ρ f) (FinS K g D)
abbrev DS (X : Cx) (E : XK) (st : Stmt) (s : Sm) : Prop := PS X st (tDS X.K X.mg E s)
abbrev DSs (X : Cx) (E : XK) (sts : List Stmt) (s : Sm) : Prop := PSs X sts (tDS X.K X.mg E s)
section
variable {X : Cx} {E : XK}
theorem ps_mono {st : Stmt} {t t2 : TS} (h : PS X st t) (i : ∀ D σ H, t2 D σ H → t D σ H) : PS X st t2 := ⟨fun pins s σ H D I q => h.run pins s σ H D I (i D σ H q)⟩
theorem pss_mono {st : List Stmt} {t t2 : TS} (h : PSs X st t) (i : ∀ D σ H, t2 D σ H → t D σ H) : PSs X st t2 := ⟨fun pins s σ H D I q => h.run pins s σ H D I (i D σ H q)⟩
end
def sNext : Sm := fun ρ f => .ok (.nx ρ) f
def sNo : Sm := fun _ _ => .no
def andThen (c : Ctl) (f : Feed) (k : Rho → Feed → R Ctl) : R Ctl := match c with
  | .nx ρ => k ρ f
  | c => .ok c f
def sSeq (a b : Sm) : Sm := fun ρ f => (a ρ f).bind fun c f1 => andThen c f1 b
section
variable {K : PySem.W.Frag} {mg : Str → Option Value} {E : XK} {g : Gh} {σ : St} {H HF : Hp} {ρ : Rho} {f : Feed}
theorem Rel.ret (r : Rel K g σ H HF ρ f) {v : V} {rv : RV} (h : RR K g [] g.H0 H HF v rv.up) : RetOk K g H HF f v rv := ⟨r.sub, r.feed, r.ext, r.le, r.new, h⟩
theorem XF.mono {α : Type} {r : R α} {P P2 : α → Feed → Prop} (h : XF K mg g E r P) (i : ∀ a f, P a f → P2 a f) : XF K mg g E r P2 := by
  cases r with
  | no => exact h
  | ok a f => exact i a f h
  | ex c vs f => exact h
theorem XF.of_bind {α β : Type} {r : R α} {k : α → Feed → R β} {P : β → Feed → Prop} (h : XF K mg g E (r.bind k) P) : XF K mg g E r fun a f => XF K mg g E (k a f) P := by
  cases r with
  | no => exact h
  | ok a f => exact h
  | ex c vs f => exact h
/-- from a statement's wish to an expression's -/
theorem Rel.toE {α : Type} {r : R α} {P : α → Feed → Prop} (rel : Rel K g σ H HF ρ f) (h : XF K mg g E r P) : ROk K mg g H HF E r P := by
  cases r with
  | no => exact h
  | ok a f => exact h
  | ex c vs f1 => exact fun C od G GF q s hf x => h C od G GF q ((rel.step s hf).ret .non) x
theorem tD_S {β : Type} {e : Ex} {k : RV → Feed → R β} {P : β → Feed → Prop} {Q : VK} (r : Rel K g σ H HF ρ f) (h : XF K mg g E ((e ρ f).bind k) P)
    (c : ∀ rv f1 v G GF, Rel K g σ G GF ρ f1 → Step g H HF G GF → RR K g σ H G GF v rv → XF K mg g E (k rv f1) P → Q v G) : tD K mg (fun _ => E) e σ H Q :=
  ⟨g, HF, ρ, f, r, r.toE (h.of_bind.mono fun rv f1 q v G GF s hf rr => c rv f1 v G GF (r.step s hf) s rr q)⟩
theorem tD_Spk {β : Type} {e : Ex} {k : PyData → Feed → R β} {P : β → Feed → Prop} {Q : VK} (r : Rel K g σ H HF ρ f) (h : XF K mg g E (pk (e ρ f) k) P)
    (c : ∀ d f1 v G GF, Rel K g σ G GF ρ f1 → Step g H HF G GF → Top K g G GF v d → XF K mg g E (k d f1) P → Q v G) : tD K mg (fun _ => E) e σ H Q :=
  tD_S r h fun rv f1 v G GF r1 s rr q => by
    cases z : rv.peek with
    | none =>
      simp only [z] at q
      exact (show False from q).elim
    | some d =>
      simp only [z] at q
      exact c d f1 v G GF r1 s (rr.top r1.feed z) q
theorem tD_Sdt {β : Type} {e : Ex} {k : PyData → Feed → R β} {P : β → Feed → Prop} {Q : VK} (r : Rel K g σ H HF ρ f) (h : XF K mg g E (dt (e ρ f) k) P)
    (c : ∀ d f1 v G GF, Rel K g σ G GF ρ f1 → Step g H HF G GF → DR K GF v d → XF K mg g E (k d f1) P → Q v G) : tD K mg (fun _ => E) e σ H Q :=
  ⟨g, HF, ρ, f, r, r.toE ((XF.of_bind h).mono fun rv f1 q v G GF s hf rr => by
    cases z : rv.data with
    | none =>
      simp only [z] at q
      exact (show False from q).elim
    | some d =>
      simp only [z] at q
      obtain ⟨IF, s2, h2, dr⟩ := rr.frz hf s z
      exact c d f1 v G IF (r.step s2 h2) s2 dr q)⟩
theorem tDT_S {β : Type} {t : Tx} {k : Bool → Feed → R β} {P : β → Feed → Prop} {Q : Bool → Hp → Prop} (r : Rel K g σ H HF ρ f) (h : XF K mg g E ((t ρ f).bind k) P)
    (c : ∀ b f1 G GF, Rel K g σ G GF ρ f1 → Step g H HF G GF → XF K mg g E (k b f1) P → Q b G) : tDT K mg (fun _ => E) t σ H Q :=
  ⟨g, HF, ρ, f, r, r.toE (h.of_bind.mono fun b f1 q G GF s hf => c b f1 G GF (r.step s hf) s q)⟩
def slotOf : RV → Option Slot
  | .dat d => some (.dat d)
  | .own ds => some (.own ds)
  | .feed => some .feed
  | .lent _ _ => none
theorem Rel.dead (r : Rel K g σ H HF ρ f) {p : Addr} (h : H p = none) : g.H0 p = none := by
  cases z : g.H0 p with
  | none => rfl
  | some o =>
    by_cases q : p = g.fa
    · rw [q] at h
      exact absurd h r.feed.ne
    · rw [r.ext p o q z] at h
      cases h
theorem set_get {α : Type} {l : List α} {i j : Nat} {x y : α} (h : (l.set i x)[j]? = some y) : (i = j ∧ i < l.length ∧ x = y) ∨ (i ≠ j ∧ l[j]? = some y) := by
  rw [List.getElem?_set] at h
  by_cases e : i = j
  · rw [if_pos e] at h
    by_cases q : i < l.length
    · rw [if_pos q] at h
      exact .inl ⟨e, q, Option.some.inj h⟩
    · rw [if_neg q] at h
      cases h
  · rw [if_neg e] at h
    exact .inr ⟨e, h⟩
theorem Rel.put {H1 HF1 : Hp} {f1 : Feed} {v : V} {rv : RV} {s : Slot} {i : Nat} (r0 : Rel K g σ H HF ρ f) (st : Step g H HF H1 HF1) (r : Rel K g σ H1 HF1 ρ f1) (rr : RR K g σ H H1 HF1 v rv) (hs : slotOf rv = some s) : Rel K g (σ.set i (some v)) H1 HF1 (ρ.set i s) f1 where
  sub := r.sub
  feed := r.feed
  ext := r.ext
  le := r.le
  new := r.new
  len := by rw [List.length_set, List.length_set, r.len]
  slot := fun j x e => by
    rcases set_get e with ⟨e1, e2, e3⟩ | ⟨e1, e2⟩
    · subst e1
      subst e3
      have hx : (σ.set i (some v))[i]? = some (some v) := by
        rw [List.getElem?_set_self (by rw [r.len]; exact e2)]
      rw [hx]
      cases rv <;> cases hs
      · exact ⟨v, rfl, rr⟩
      · obtain ⟨p, vs, z1, z2, z3, z4, z5⟩ := rr
        subst z1
        exact ⟨p, vs, rfl, r0.dead z2, z3, z4, z5⟩
      · have q : v = .ref g.fa := rr
        subst q
        rfl
    · rw [List.getElem?_set_ne e1]
      exact r.slot j x e2
  sep := fun a b ds es ea eb ee => by
    rcases set_get ea with ⟨a1, a2, a3⟩ | ⟨a1, a2⟩
    · rcases set_get eb with ⟨b1, b2, b3⟩ | ⟨b1, b2⟩
      · exact a1.symm.trans b1
      · exfalso
        subst a1
        rw [List.getElem?_set_self (by rw [r.len]; exact a2), List.getElem?_set_ne b1] at ee
        subst a3
        cases rv <;> cases hs
        obtain ⟨p, vs, z1, z2, z3, z4, z5⟩ := rr
        obtain ⟨q, ws, y1, y2, y3, y4, y5⟩ := r0.slot b _ b2
        rw [y1, z1] at ee
        cases ee
        rw [y4] at z2
        cases z2
    · rcases set_get eb with ⟨b1, b2, b3⟩ | ⟨b1, b2⟩
      · exfalso
        subst b1
        rw [List.getElem?_set_self (by rw [r.len]; exact b2), List.getElem?_set_ne a1] at ee
        subst b3
        cases rv <;> cases hs
        obtain ⟨p, vs, z1, z2, z3, z4, z5⟩ := rr
        obtain ⟨q, ws, y1, y2, y3, y4, y5⟩ := r0.slot a _ a2
        rw [y1, z1] at ee
        cases ee
        rw [y4] at z2
        cases z2
      · rw [List.getElem?_set_ne a1, List.getElem?_set_ne b1] at ee
        exact r.sep a b ds es a2 b2 ee
  sepD := fun a b ds es ea eb ee => by
    rcases set_get ea with ⟨a1, a2, a3⟩ | ⟨a1, a2⟩
    · subst a3
      cases rv <;> cases hs
    · rcases set_get eb with ⟨b1, b2, b3⟩ | ⟨b1, b2⟩
      · subst b3
        cases rv <;> cases hs
      · rw [List.getElem?_set_ne a1, List.getElem?_set_ne b1] at ee
        exact r.sepD a b ds es a2 b2 ee
  bd := by
    have nb : ∀ (a : Nat) dss, (ρ.set i s)[a]? = some (.brd dss) → i ≠ a ∧ ρ[a]? = some (.brd dss) := fun a dss e => by
      rcases set_get e with ⟨a1, a2, a3⟩ | ⟨a1, a2⟩
      · subst a3
        cases rv <;> cases hs
      · exact ⟨a1, a2⟩
    refine ⟨fun a b x y ea eb => r.bd.1 a b x y (nb a x ea).2 (nb b y eb).2, fun a b dss ds p c qs e1 e2 e3 e4 e5 => ?_⟩
    obtain ⟨n1, e1b⟩ := nb a dss e1
    rw [List.getElem?_set_ne n1] at e3
    rcases set_get e2 with ⟨b1, b2, b3⟩ | ⟨b1, b2⟩
    · subst b1
      rw [List.getElem?_set_self (by rw [r.len]; exact b2)] at e4
      subst b3
      cases rv <;> cases hs
      obtain ⟨q, vs, z1, z2, z3, z4, z5⟩ := rr
      rw [z1] at e4
      cases e4
      have w := r0.bdWas st e1b e3 e5
      intro m
      obtain ⟨us, z⟩ := w.live m
      rw [z2] at z
      cases z
    · rw [List.getElem?_set_ne b1] at e4
      exact r.bd.2 a b dss ds p c qs e1b b2 e3 e4 e5
theorem Rel.putD {v : V} {d : PyData} {i : Nat} (r : Rel K g σ H HF ρ f) (h : DR K HF v d) : Rel K g (σ.set i (some v)) H HF (ρ.set i (.dat d)) f := r.put (rv := .dat d) (Step.refl r.sub) r h rfl
/-- the list that a slot holds is written -/
theorem Rel.write {p : Addr} {vs ws : List V} {ds es : List PyData} {i : Nat} (r : Rel K g σ H HF ρ f) (h : ρ[i]? = some (.own ds)) (hp : σ[i]? = some (some (.ref p))) (hq : HF p = none) (h4 : H p = some (.lst vs)) (h5 : DRs K HF ws es) :
    Rel K g σ (upd H p (.lst ws)) HF (ρ.set i (.own es)) f where
  sub := fun a o e => by
    rw [upd_ne (ne_of_none e hq)]
    exact r.sub a o e
  feed := ⟨by rw [upd_ne (fun z => ne_fa r.feed h4 z.symm)]; exact r.feed.d, r.feed.nf, r.feed.c⟩
  ext := fun a o z e => by
    have na : a ≠ p := fun w => by
      subst w
      obtain ⟨p2, vs2, z1, z2, _⟩ := r.slot i _ h
      rw [hp] at z1
      cases z1
      rw [z2] at e
      cases e
    rw [upd_ne na]
    exact r.ext a o z e
  le := r.le
  new := r.new
  len := by rw [List.length_set, r.len]
  slot := fun j x e => by
    rcases set_get e with ⟨e1, e2, e3⟩ | ⟨e1, e2⟩
    · subst e1
      subst e3
      obtain ⟨p2, vs2, z1, z2, z3, z4, z5⟩ := r.slot i _ h
      rw [hp] at z1
      cases z1
      exact ⟨p, ws, hp, z2, hq, upd_same, h5⟩
    · have k := r.slot j x e2
      cases x with
      | emp => trivial
      | dat d => exact k
      | own fs =>
        obtain ⟨p2, vs2, z1, z2, z3, z4, z5⟩ := k
        have np : p2 ≠ p := fun w => by
          subst w
          exact e1 (r.sep i j ds fs h e2 (hp.trans z1.symm))
        exact ⟨p2, vs2, z1, z2, z3, by rw [upd_ne np]; exact z4, z5⟩
      | feed => exact k
      | scr ns => exact k
      | dct q =>
        obtain ⟨p2, z1, z2, z3, z4⟩ := k
        have np : p2 ≠ p := fun w => by
          subst w
          exact z4.nl h4
        exact ⟨p2, z1, z2, z3, z4.mono (fun o e => by rw [upd_ne np]; exact e) (Le.refl _)⟩
      | key ks => exact k
      | brd dss =>
        obtain ⟨p2, qs, z1, z2⟩ := k
        exact ⟨p2, qs, z1, z2.upd (r.bd.2 j i dss ds p2 p qs e2 h z1 hp z2.1)⟩
  bd := r.bd.to (fun a dss e => by
    rcases set_get e with ⟨a1, a2, a3⟩ | ⟨a1, a2⟩
    · cases a3
    · exact ⟨⟨_, a2⟩, rfl⟩) (fun a es2 e => by
    rcases set_get e with ⟨a1, a2, a3⟩ | ⟨a1, a2⟩
    · subst a1
      exact ⟨⟨_, h⟩, rfl⟩
    · exact ⟨⟨_, a2⟩, rfl⟩) fun a dss p2 qs e1 e2 e3 => by
    obtain ⟨p3, q3, z1, z2⟩ := r.slot a _ e1
    rw [e2] at z1
    cases z1
    have n := r.bd.2 a i dss ds p2 p q3 e1 h e2 hp z2.1
    rw [upd_ne (fun z => n (by rw [z]; exact List.mem_cons_self))] at e3
    exact e3
  sepD := fun a b xs ys ea eb ee => by
    rcases set_get ea with ⟨a1, a2, a3⟩ | ⟨a1, a2⟩
    · cases a3
    · rcases set_get eb with ⟨b1, b2, b3⟩ | ⟨b1, b2⟩
      · cases b3
      · exact r.sepD a b xs ys a2 b2 ee
  sep := fun a b xs ys ea eb ee => by
    have fa : ∃ zs, ρ[a]? = some (.own zs) := by
      rcases set_get ea with ⟨a1, a2, a3⟩ | ⟨a1, a2⟩
      · subst a1
        exact ⟨ds, h⟩
      · exact ⟨xs, a2⟩
    have fb : ∃ zs, ρ[b]? = some (.own zs) := by
      rcases set_get eb with ⟨a1, a2, a3⟩ | ⟨a1, a2⟩
      · subst a1
        exact ⟨ds, h⟩
      · exact ⟨ys, a2⟩
    obtain ⟨z1, fa⟩ := fa
    obtain ⟨z2, fb⟩ := fb
    exact r.sep a b z1 z2 fa fb ee
end
section
variable {X : Cx} {E : XK} {st : Stmt} {rest : List Stmt} {a b : Sm} {e : Expr} {x : Ex} {pos : Pos}
theorem ds_no : DS X E st sNo := ps_mono ps_never fun D σ H ⟨g, HF, ρ, f, rel, q⟩ => q
theorem dss_nil : DSs X E [] sNext := pss_mono pss_nil fun D σ H ⟨g, HF, ρ, f, rel, q⟩ => (show FinS X.K g D (.nx ρ) f from q) σ H HF rel
theorem dss_one (h : DS X E st a) : DSs X E [st] a := pss_one h
theorem dss_cons (h : DS X E st a) (h2 : DSs X E rest b) : DSs X E (st :: rest) (sSeq a b) := pss_mono (pss_cons h h2) fun D σ H ⟨g, HF, ρ, f, rel, q⟩ =>
  ⟨g, HF, ρ, f, rel, (XF.of_bind q).mono fun c f1 k => by
    cases c with
    | nx ρ2 => exact fun σ2 G GF r2 => ⟨g, GF, ρ2, f1, r2, k⟩
    | rt v => exact k
    | bk ρ2 => exact k
    | ct ρ2 => exact k⟩
def sSet (i : Nat) (e : Ex) : Sm := fun ρ f => (e ρ f).bind fun rv f1 => match slotOf rv with
  | some s => .ok (.nx (ρ.set i s)) f1
  | none => .no
theorem set_read {K : PySem.W.Frag} {mg : Str → Option Value} {i : Nat} {D : Ends} {σ : St} {H : Hp} (h : tDS K mg E (sSet i x) D σ H) : tAsg (tD K mg (fun _ => E) x) (gName i) D σ H := by
  obtain ⟨g, HF, ρ, f, rel, q⟩ := h
  refine tD_S rel q fun rv f1 v G GF r1 s1 rr q1 => ?_
  cases z : slotOf rv with
  | none =>
    simp only [z] at q1
    exact (show False from q1).elim
  | some s =>
    simp only [z] at q1
    exact (show FinS K g D (.nx (ρ.set i s)) f1 from q1) _ G GF (rel.put s1 r1 rr z)
theorem ds_set {i : Nat} {y : Str} {pos2 : Pos} (hN : X.N.Nodup) (hi : X.N[i]? = some y) (hx : Loc X.env.scope y) (he : DE X (fun _ => E) e x) (hs : swapsWith e (some (.Name y pos2)) pos.line X.env = pure false := by rfl)
    (hf : X.fn y = true ∨ X.env.scope.names.lookup y = some .local := by first | exact .inl rfl | exact .inr rfl | assumption) : DS X E (.Assign [.Name y pos2] e pos) (sSet i x) :=
  ps_mono (ps_set hN hi hx he hs hf) fun _ _ _ q => set_read q
def sRet (e : Ex) : Sm := fun ρ f => (e ρ f).bind fun rv f1 => .ok (.rt rv) f1
theorem ds_ret (he : DE X (fun _ => E) e x) : DS X E (.Return (some e) pos) (sRet x) := ps_mono (ps_ret he) fun D σ H ⟨g, HF, ρ, f, rel, q⟩ =>
  tD_S rel q fun rv f1 v G GF r1 s1 rr q1 => (show FinS X.K g D (.rt rv) f1 from q1) v G GF (r1.ret (by
    cases rv with
    | dat d => exact rr
    | own ds =>
      obtain ⟨p, vs, e1, e2, e3⟩ := rr
      exact ⟨p, vs, e1, rel.dead e2, e3⟩
    | lent i ds =>
      obtain ⟨p, vs, e1, e0, e3⟩ := rr
      exact ⟨p, vs, e1, e0, e3⟩
    | feed => exact rr))
def sIf (t : Tx) (a b : Sm) : Sm := fun ρ f => (t ρ f).bind fun c f1 => if c = true then a ρ f1 else b ρ f1
theorem ds_if {c : Expr} {t : Tx} {as bs : List Stmt} (hc : DT X (fun _ => E) c t) (ha : DSs X E as a) (hb : DSs X E bs b) : DS X E (.If c as bs pos) (sIf t a b) := ps_mono (ps_if hc ha hb) fun D σ H ⟨g, HF, ρ, f, rel, q⟩ =>
  tDT_S rel q fun k f1 G GF r1 s1 q1 => by
    cases k with
    | true => exact iteT ⟨g, GF, ρ, f1, r1, q1⟩
    | false => exact iteF ⟨g, GF, ρ, f1, r1, q1⟩
def sDrop (e : Ex) : Sm := fun ρ f => (e ρ f).bind fun _ f1 => .ok (.nx ρ) f1
def sBreak : Sm := fun ρ f => .ok (.bk ρ) f
def sCont : Sm := fun ρ f => .ok (.ct ρ) f
inductive Tgt where
  | one (i : Nat)
  | many (l : List Nat)
def setAll : List Nat → List PyData → Rho → Rho
  | i :: l, d :: ds, ρ => setAll l ds (ρ.set i (.dat d))
  | _, _, ρ => ρ
def Tgt.put : Tgt → PyData → Rho → Option Rho
  | .one i, d, ρ => some (ρ.set i (.dat d))
  | .many l, .tuple ds, ρ => if ds.length = l.length then some (setAll l ds ρ) else none
  | .many _, _, _ => none
def gAll : List Nat → TGs
  | [] => gNil
  | i :: l => gCons (gName i) (gAll l)
def Tgt.rd (K : PySem.W.Frag) : Tgt → TG
  | .one i => gName i
  | .many l => gTup K l.length (gAll l)
theorem all_put {K : PySem.W.Frag} {g : Gh} {H HF : Hp} {f : Feed} : ∀ {l : List Nat} {vs : List V} {ds : List PyData} {σ : St} {ρ : Rho} {Q : St → Hp → Prop}, ds.length = l.length → Rel K g σ H HF ρ f → DRs K HF vs ds →
    (∀ σ2, Rel K g σ2 H HF (setAll l ds ρ) f → Q σ2 H) → gAll l vs σ H Q
  | [], _, [], σ, ρ, Q, _, r, .nil, q => ⟨rfl, q σ r⟩
  | i :: l, _, d :: ds, σ, ρ, Q, hl, r, .cons h hs, q => ⟨_, _, rfl, all_put (by simpa using hl) (r.putD h) hs q⟩
  | [], _, _ :: _, _, _, _, hl, _, _, _ => by simp at hl
  | _ :: _, _, [], _, _, _, hl, _, _, _ => by simp at hl
theorem Tgt.read {K : PySem.W.Frag} {g : Gh} {H HF : Hp} {f : Feed} {T : Tgt} {v : V} {d : PyData} {σ : St} {ρ ρ2 : Rho} {Q : St → Hp → Prop} (r : Rel K g σ H HF ρ f) (h : DR K HF v d) (e : T.put d ρ = some ρ2) (q : ∀ σ2, Rel K g σ2 H HF ρ2 f → Q σ2 H) : T.rd K v σ H Q := by
  cases T with
  | one i =>
    cases e
    exact q _ (r.putD h)
  | many l =>
    cases d <;> try cases e
    rename_i ds
    replace e : (if ds.length = l.length then some (setAll l ds ρ) else none) = some ρ2 := e
    by_cases c : ds.length = l.length
    · rw [if_pos c] at e
      cases e
      cases h with
      | tup h1 h2 => exact ⟨_, _, rfl, r.sub.sqT h1, h2.length.trans c, all_put c r h2 q⟩
    · rw [if_neg c] at e
      cases e
def sAsg (T : Tgt) (e : Ex) : Sm := fun ρ f => dt (e ρ f) fun d f1 => match T.put d ρ with
  | some ρ2 => .ok (.nx ρ2) f1
  | none => .no
theorem ds_asg {tg : Expr} {T : Tgt} (he : DE X (fun _ => E) e x) (hg : PG X tg (T.rd X.K)) (hs : swapsWithSole [tg] e pos.line X.env = pure false := by rfl) (hw : swappedStores [tg] e X.env = pure none := by rfl)
    (h1 : (assignEach [tg] X.env).map (·.2) = [assign tg X.env] := by rfl) : DS X E (.Assign [tg] e pos) (sAsg T x) := ps_mono (ps_asg he hg hs hw h1) fun D σ H ⟨g, HF, ρ, f, rel, q⟩ =>
  tD_Sdt rel q fun d f1 v G GF r1 s1 dr q1 => by
    cases z : T.put d ρ with
    | none =>
      simp only [z] at q1
      exact (show False from q1).elim
    | some ρ2 =>
      simp only [z] at q1
      exact T.read r1 dr z fun σ2 r2 => (show FinS X.K g D (.nx ρ2) f1 from q1) σ2 G GF r2
/-- a, b = x, y of plain names -/
def sPar (i j : Nat) (a b : Ex) : Sm := fun ρ f => (cArgs [a, b] ρ f).bind fun ds f1 => match ds with
  | [d, e] => .ok (.nx ((ρ.set i (.dat d)).set j (.dat e))) f1
  | _ => .no
theorem args_readS {K : PySem.W.Frag} {mg : Str → Option Value} {β : Type} {P : β → Feed → Prop} (xs : List Ex) {k : List PyData → Feed → R β} {g : Gh} {σ : St} {H HF : Hp} {ρ : Rho} {f : Feed} {Q : List V → Hp → Prop} (r : Rel K g σ H HF ρ f)
    (h : XF K mg g E ((cArgs xs ρ f).bind k) P) (c : ∀ ds f1 vs G GF, Rel K g σ G GF ρ f1 → Step g H HF G GF → DRs K GF vs ds → XF K mg g E (k ds f1) P → Q vs G) : argT K mg (fun _ => E) xs σ H Q := by
  have h2 : ROk K mg g H HF E ((cArgs xs ρ f).bind fun ds f1 => .ok (ds, f1) f1) fun p f1 => XF K mg g E (k p.1 f1) P := by
    have h3 := r.toE h.of_bind
    cases z : cArgs xs ρ f with
    | no => rw [z] at h3; exact h3
    | ok a f => rw [z] at h3; exact h3
    | ex c vs f => rw [z] at h3; exact h3
  exact args_read (W := fun _ => E) xs r h2 fun ds f1 vs G GF r1 s1 drs q => c ds f1 vs G GF r1 s1 drs q
theorem ds_par {i j : Nat} {y z : Str} {ea eb : Expr} {xa xb : Ex} {px py pt : Pos} {kt k2 pt2} (hc : X.calm = true) (hN : X.N.Nodup) (hi : X.N[i]? = some y) (hj : X.N[j]? = some z) (hij : i ≠ j)
    (hx : X.env.scope.names.lookup y = some .local) (hy : X.env.scope.names.lookup z = some .local) (ha : DA X (fun _ => E) [ea, eb] [xa, xb])
    (hw : swappedStores [.Tuple [.Name y px, .Name z py] kt pt] (.Tuple [ea, eb] k2 pt2) X.env = pure (some [y, z]))
    (hs : swapsWithSole [.Tuple [.Name y px, .Name z py] kt pt] (.Tuple [ea, eb] k2 pt2) pos.line X.env = pure false := by rfl) :
    DS X E (.Assign [.Tuple [.Name y px, .Name z py] kt pt] (.Tuple [ea, eb] k2 pt2) pos) (sPar i j xa xb) := ps_mono (ps_par hc hN hi hj hij hx hy ha hw hs) fun D σ H ⟨g, HF, ρ, f, rel, q⟩ =>
  args_readS [xa, xb] rel q fun ds f1 vs G GF r1 s1 drs q1 => by
    cases drs with
    | nil => exact (show False from q1).elim
    | cons h1 t1 =>
      cases t1 with
      | nil => exact (show False from q1).elim
      | cons h2 t2 =>
        cases t2 with
        | cons _ _ => exact (show False from q1).elim
        | nil => exact ⟨_, _, rfl, (show FinS X.K g D (.nx _) f1 from q1) _ G GF ((r1.putD h1).putD h2)⟩
def sApp (i : Nat) (e : Ex) : Sm := fun ρ f => match ρ[i]? with
  | some (.own ds) => dt (e ρ f) fun d f1 => if ds.length < 100000 then .ok (.nx (ρ.set i (.own (ds ++ [d])))) f1 else .no
  | _ => .no
theorem own_here {K : PySem.W.Frag} {g : Gh} {σ : St} {H HF : Hp} {ρ : Rho} {f : Feed} {i : Nat} {ds : List PyData} (r : Rel K g σ H HF ρ f) (h : ρ[i]? = some (.own ds)) : ∃ p vs, σ[i]? = some (some (.ref p)) ∧ HF p = none ∧ H p = some (.lst vs) ∧ DRs K HF vs ds := by
  obtain ⟨p, vs, z1, z2, z3, z4, z5⟩ := r.slot i _ h
  exact ⟨p, vs, z1, z3, z4, z5⟩
theorem app_read {K : PySem.W.Frag} {mg : Str → Option Value} {i : Nat} {D : Ends} {σ : St} {H : Hp} (h : tDS K mg E (sApp i x) D σ H) : tDrop (tBM K "list" rAppend (tVar i) (tCons (tD K mg (fun _ => E) x) tNil)) D σ H := by
  obtain ⟨g, HF, ρ, f, rel, q⟩ := h
  unfold sApp at q
  cases z : ρ[i]? with
  | none =>
    simp only [z] at q
    exact (show False from q).elim
  | some s =>
    cases s with
    | own ds =>
      simp only [z] at q
      obtain ⟨p, vs, e1, e2, e3, e4⟩ := own_here rel z
      refine ⟨.ref p, e1, .inl ⟨rfl, vs, .inl (.inl e3)⟩, tD_Sdt rel q fun d f1 v G GF r1 s1 dr q1 => ?_⟩
      obtain ⟨p2, vs2, y1, y2, y3, y4⟩ := own_here r1 z
      rw [e1] at y1
      cases y1
      by_cases c : ds.length < 100000
      · rw [if_pos c] at q1
        exact ⟨p, vs2, v, rfl, rfl, y3, by rw [y4.length]; exact Nat.lt_of_lt_of_le c (by decide), (show FinS K g D (.nx _) f1 from q1) _ _ GF (r1.write z e1 y2 y3 (y4.snoc dr))⟩
      · rw [if_neg c] at q1
        exact (show False from q1).elim
    | _ =>
      simp only [z] at q
      exact (show False from q).elim
def sExt (i : Nat) (e : Ex) : Sm := fun ρ f => match ρ[i]? with
  | some (.own ds) => dt (e ρ f) fun d f1 => match d with
    | .list es => if ds.length + es.length ≤ 100000 then .ok (.nx (ρ.set i (.own (ds ++ es)))) f1 else .no
    | _ => .no
  | _ => .no
section
variable {i : Nat} {y : Str} {o : Expr} {pos2 apos cpos : Pos}
theorem ds_app (ho : PE X o (tVar i)) (he : DE X (fun _ => E) e x)
    (hbase : attributeBase o "append" X.env (eval o X.env) = eval o X.env := by rfl)
    (hfew : ((backTo cpos (starEach [e] X.env)).all (fun x => !x.1) && (backToKw cpos (keywordEach [] X.env)).all (fun x => x.1.isSome)
      && decide ([e].length + ([] : List Keyword).length + (if ([] : List Keyword).isEmpty then 0 else 1) < 30)) = true := by rfl)
    (hline : (apos.endLine == cpos.line) = true := by rfl) (hst : starEach [e] X.env = (false, eval e X.env) :: starEach [] X.env := by rfl)
    (hs : swapsWith (.Call (.Attribute o "append" apos) [e] [] cpos) none pos.line X.env = pure false := by rfl) : DS X E (.Expr (.Call (.Attribute o "append" apos) [e] [] cpos) pos) (sApp i x) :=
  ps_mono (ps_expr (pe_bm PySem.F.plainAttrs_list PySem.F.slot_list_append PySem.F.type_list_append mt_append ho (pa_cons he pa_nil hst) hbase hfew hline hst rfl) hs) fun _ _ _ q => app_read q
end
def sPut (i : Nat) (ix e : Ex) : Sm := fun ρ f => match ρ[i]? with
  | some (.own ds) => dt (e ρ f) fun d f1 => pk (ix ρ f1) fun k f2 => match k with
    | .int k => match ixN ds.length k with
      | some j => .ok (.nx (ρ.set i (.own (ds.set j d)))) f2
      | none => .no
    | _ => .no
  | _ => .no
theorem put_read {K : PySem.W.Frag} {mg : Str → Option Value} {i : Nat} {xi : Ex} {D : Ends} {σ : St} {H : Hp} (h : tDS K mg E (sPut i xi x) D σ H) : tAsg (tD K mg (fun _ => E) x) (gSub (tVar i) (tD K mg (fun _ => E) xi) rSetL) D σ H := by
  obtain ⟨g, HF, ρ, f, rel, q⟩ := h
  unfold sPut at q
  cases z : ρ[i]? with
  | none =>
    simp only [z] at q
    exact (show False from q).elim
  | some s =>
    cases s with
    | own ds =>
      simp only [z] at q
      refine tD_Sdt rel q fun d f1 v G GF r1 s1 dr q1 => ?_
      obtain ⟨p, vs, e1, e2, e3, e4⟩ := own_here r1 z
      refine ⟨.ref p, e1, tD_Spk r1 q1 fun k f2 w I IF r2 s2 t2 q2 => ?_⟩
      obtain ⟨p2, vs2, y1, y2, y3, y4⟩ := own_here r2 z
      rw [e1] at y1
      cases y1
      cases k <;> try exact (show False from q2).elim
      rename_i k
      simp only at q2
      cases zz : ixN ds.length k with
      | none =>
        simp only [zz] at q2
        exact (show False from q2).elim
      | some j =>
        simp only [zz] at q2
        exact ⟨p, vs2, k, j, rfl, t2.int, y3, by rw [y4.length]; exact zz, (show FinS K g D (.nx _) f2 from q2) _ _ IF (r2.write z e1 y2 y3 (y4.set j (dr.mono s2.le)))⟩
    | _ =>
      simp only [z] at q
      exact (show False from q).elim
theorem ds_put {i : Nat} {o ie : Expr} {xi : Ex} {tpos : Pos} (ho : PE X o (tVar i)) (hi : DE X (fun _ => E) ie xi) (he : DE X (fun _ => E) e x)
    (ha : ∀ v, assign (.Subscript o ie tpos) X.env v = (do
      let ov ← holding [v] (eval o X.env)
      let iv ← holding [v, ov] (eval ie X.env)
      standAt tpos
      holding [v, ov, iv] (setItem ov iv v)
      release [v, ov, iv] []) := by intro _; rfl)
    (hs : swapsWithSole [.Subscript o ie tpos] e pos.line X.env = pure false := by rfl) (hw : swappedStores [.Subscript o ie tpos] e X.env = pure none := by rfl)
    (h1 : (assignEach [.Subscript o ie tpos] X.env).map (·.2) = [assign (.Subscript o ie tpos) X.env] := by rfl) : DS X E (.Assign [.Subscript o ie tpos] e pos) (sPut i xi x) :=
  ps_mono (ps_asg he (pg_sub ho hi set_list ha) hs hw h1) fun _ _ _ q => put_read q
def sFrz (i : Nat) : Sm := fun ρ f => match ρ[i]? with
  | some (.own ds) => .ok (.nx (ρ.set i (.dat (.list ds)))) f
  | _ => .ok (.nx ρ) f
end
end Dn
end
section
set_option maxHeartbeats 4000000
namespace Dn
open PySem PySem.Spec L2
section
variable {K : PySem.W.Frag} {mg : Str → Option Value} {E : XK} {g : Gh} {σ : St} {H HF : Hp} {ρ : Rho} {f : Feed}
theorem Rel.frz {i : Nat} {ds : List PyData} (r : Rel K g σ H HF ρ f) (h : ρ[i]? = some (.own ds)) : ∃ GF, Rel K g σ H GF (ρ.set i (.dat (.list ds))) f := by
  obtain ⟨p, vs, e1, e2, e3, e4, e5⟩ := r.slot i _ h
  have l : Le HF (upd HF p (.lst vs)) := fun a o q => by
    rw [upd_ne (ne_of_none q e3)]
    exact q
  have np : g.fa ≠ p := fun q => ne_fa r.feed e4 q.symm
  refine ⟨upd HF p (.lst vs), ⟨fun a o q => ?_, ⟨r.feed.d, ?_, l _ _ r.feed.c⟩, r.ext, r.le.trans l, fun a x y => ?_, ?_, fun j x e => ?_, fun a b xs ys ea eb ee => ?_, fun a b xs ys ea eb ee => ?_, r.bd.to (fun a dss e => by
    rcases set_get e with ⟨a1, a2, a3⟩ | ⟨a1, a2⟩
    · cases a3
    · exact ⟨⟨_, a2⟩, rfl⟩) (fun a es2 e => by
    rcases set_get e with ⟨a1, a2, a3⟩ | ⟨a1, a2⟩
    · cases a3
    · exact ⟨⟨_, a2⟩, rfl⟩) fun a dss p2 qs e1 e2 e3 => e3⟩⟩
  · by_cases z : a = p
    · subst z
      rw [upd_same] at q
      rw [e4]
      exact q
    · rw [upd_ne z] at q
      exact r.sub a o q
  · rw [upd_ne np]
    exact r.feed.nf
  · rw [upd_ne (fun z => x.some (by rw [z]; exact e2))]
    exact r.new a x y
  · rw [List.length_set, r.len]
  · rcases set_get e with ⟨z1, z2, z3⟩ | ⟨z1, z2⟩
    · subst z1
      subst z3
      exact ⟨.ref p, e1, .lst upd_same (e5.mono l)⟩
    · have k := r.slot j x z2
      cases x with
      | emp => trivial
      | dat d =>
        obtain ⟨v, k1, k2⟩ := k
        exact ⟨v, k1, k2.mono l⟩
      | own fs =>
        obtain ⟨q, ws, k1, k2, k3, k4, k5⟩ := k
        have nq : q ≠ p := fun w => by
          subst w
          exact z1 (r.sep i j ds fs h z2 (e1.trans k1.symm))
        exact ⟨q, ws, k1, k2, by rw [upd_ne nq]; exact k3, k4, k5.mono l⟩
      | feed => exact k
      | scr ns =>
        obtain ⟨a, k1, k2⟩ := k
        exact ⟨a, k1, l.sqL k2⟩
      | dct fs =>
        obtain ⟨q, k1, k2, k3, k4⟩ := k
        have nq : q ≠ p := fun w => by
          subst w
          exact k4.nl e4
        exact ⟨q, k1, k2, by rw [upd_ne nq]; exact k3, k4.mono (fun _ e => e) l⟩
      | key ks =>
        obtain ⟨a, k1, k2⟩ := k
        exact ⟨a, k1, l _ _ k2⟩
      | brd dss =>
        obtain ⟨q, qs, k1, k2⟩ := k
        have n := r.bd.2 j i dss ds q p qs z2 h k1 e1 k2.1
        exact ⟨q, qs, k1, k2.keep (fun a m => rfl) (fun a m => by
          rw [upd_ne (fun z => n (by rw [← z]; exact m))]
          exact (k2.2.2.1 a m).2) l⟩
  · rcases set_get ea with ⟨a1, a2, a3⟩ | ⟨a1, a2⟩
    · cases a3
    · rcases set_get eb with ⟨b1, b2, b3⟩ | ⟨b1, b2⟩
      · cases b3
      · exact r.sep a b xs ys a2 b2 ee
  · rcases set_get ea with ⟨a1, a2, a3⟩ | ⟨a1, a2⟩
    · cases a3
    · rcases set_get eb with ⟨b1, b2, b3⟩ | ⟨b1, b2⟩
      · cases b3
      · exact r.sepD a b xs ys a2 b2 ee
end
theorem dss_frz {X : Cx} {E : XK} {sts : List Stmt} {s : Sm} (i : Nat) (h : DSs X E sts s) : DSs X E sts (sSeq (sFrz i) s) := pss_mono h fun D σ H ⟨g, HF, ρ, f, rel, q⟩ => by
  unfold sSeq sFrz at q
  cases z : ρ[i]? with
  | none =>
    simp only [z] at q
    exact ⟨g, HF, ρ, f, rel, q⟩
  | some x =>
    cases x with
    | own ds =>
      simp only [z] at q
      obtain ⟨GF, r2⟩ := rel.frz z
      exact ⟨g, GF, _, f, r2, q⟩
    | _ =>
      simp only [z] at q
      exact ⟨g, HF, ρ, f, rel, q⟩
def whileN (t : Tx) (s : Sm) : Nat → Rho → Feed → R Ctl
  | 0, _, _ => .no
  | n + 1, ρ, f => (t ρ f).bind fun b f1 => if b = true then (s ρ f1).bind fun c f2 => match c with
      | .nx ρ2 => whileN t s n ρ2 f2
      | .ct ρ2 => whileN t s n ρ2 f2
      | .bk ρ2 => .ok (.nx ρ2) f2
      | .rt v => .ok (.rt v) f2
    else .ok (.nx ρ) f1
open Classical in
noncomputable def sWhile (t : Tx) (s : Sm) : Sm := fun ρ f => if h : ∃ n, whileN t s n ρ f ≠ .no then whileN t s (Classical.choose h) ρ f else .no
theorem whileN_succ {t : Tx} {s : Sm} : ∀ {n : Nat} {ρ : Rho} {f : Feed}, whileN t s n ρ f ≠ .no → whileN t s (n + 1) ρ f = whileN t s n ρ f
  | 0, ρ, f, h => absurd rfl h
  | n + 1, ρ, f, h => by
    unfold whileN at h ⊢
    cases e1 : t ρ f with
    | no => rfl
    | ex c v f => rfl
    | ok b f1 =>
      simp only [e1, R.bind] at h ⊢
      cases b with
      | false => rfl
      | true =>
        simp only [if_true] at h ⊢
        cases e2 : s ρ f1 with
        | no => rfl
        | ex c v f => rfl
        | ok c f2 =>
          simp only [e2] at h ⊢
          cases c with
          | nx ρ2 => exact whileN_succ h
          | ct ρ2 => exact whileN_succ h
          | bk ρ2 => rfl
          | rt v => rfl
theorem whileN_add {t : Tx} {s : Sm} {n : Nat} {ρ : Rho} {f : Feed} (h : whileN t s n ρ f ≠ .no) : ∀ k, whileN t s (n + k) ρ f = whileN t s n ρ f
  | 0 => rfl
  | k + 1 => by
    have ih := whileN_add h k
    rw [← Nat.add_assoc, whileN_succ (by rw [ih]; exact h), ih]
theorem sWhile_eq {t : Tx} {s : Sm} {n : Nat} {ρ : Rho} {f : Feed} {r : R Ctl} (h : whileN t s n ρ f = r) (hr : r ≠ .no) : sWhile t s ρ f = r := by
  have hx : ∃ n, whileN t s n ρ f ≠ .no := ⟨n, by rw [h]; exact hr⟩
  unfold sWhile
  rw [dif_pos hx, ← h]
  have c := Classical.choose_spec hx
  have a1 := whileN_add c n
  have a2 := whileN_add (show whileN t s n ρ f ≠ .no by rw [h]; exact hr) (Classical.choose hx)
  rw [← a1, ← a2, Nat.add_comm]
section
variable {X : Cx} {E : XK} {t : Tx} {s : Sm} {c : Expr} {body : List Stmt} {pos : Pos}
theorem while_read {K : PySem.W.Frag} {mg : Str → Option Value} {D : Ends} {σ : St} {H : Hp} (h : tDS K mg E (sWhile t s) D σ H) : tWhile (tDT K mg (fun _ => E) t) (tDS K mg E s) D σ H := by
  obtain ⟨g, HF, ρ, f, rel, q⟩ := h
  unfold sWhile at q
  by_cases hx : ∃ n, whileN t s n ρ f ≠ .no
  · rw [dif_pos hx] at q
    refine ⟨fun m σ H => ∃ HF ρ f, Rel K g σ H HF ρ f ∧ XF K mg g E (whileN t s m ρ f) (FinS K g D), ⟨_, HF, ρ, f, rel, q⟩, fun m σ H hW => ?_⟩
    obtain ⟨HF, ρ, f, rel, q⟩ := hW
    cases m with
    | zero => exact (show False from q).elim
    | succ m =>
      refine tDT_S rel q fun b f1 G GF r1 s1 q1 => ?_
      cases b with
      | false => exact iteF ((show FinS K g D (.nx ρ) f1 from q1) σ G GF r1)
      | true =>
        refine iteT ⟨fun σ H => ∃ HF ρ f, Rel K g σ H HF ρ f ∧ XF K mg g E (whileN t s m ρ f) (FinS K g D), fun σ2 H2 z => ⟨m, Nat.lt_succ_self m, z⟩, g, GF, ρ, f1, r1, (XF.of_bind q1).mono fun c f2 k => ?_⟩
        cases c with
        | nx ρ2 => exact fun σ2 I IF r2 => ⟨IF, ρ2, f2, r2, k⟩
        | ct ρ2 => exact fun σ2 I IF r2 => ⟨IF, ρ2, f2, r2, k⟩
        | bk ρ2 => exact k
        | rt v => exact k
  · rw [dif_neg hx] at q
    exact (show False from q).elim
theorem ds_while (hp : PassesOwn (model X.prog X.w) X.A X.env X.xe) (hc : DT X (fun _ => E) c t) (hb : DSs X E body s) : DS X E (.While c body [] pos) (sWhile t s) := ps_mono (ps_while hp hc hb) fun _ _ _ q => while_read q
end
structure New (I IF G GF : Hp) : Prop where
  ext : ∀ a o, I a = some o → G a = some o
  le : Le IF GF
  new : ∀ a, Mo I a → IF a = none → GF a = none
  sub : Le GF G
theorem New.step {g : Gh} {I IF G GF : Hp} (n : New I IF G GF) : Step g I IF G GF := ⟨fun a o _ e => n.ext a o e, n.le, n.new, n.sub⟩
theorem New.feed {g : Gh} {I IF G GF : Hp} {f : Feed} (n : New I IF G GF) (h : FeedAt g I IF f) : FeedAt g G GF f := ⟨n.ext _ _ h.d, n.new _ (mo h.d) h.nf, n.le _ _ h.c⟩
structure Yields (K : PySem.W.Frag) (J : It) (GF : Hp) (ds : List PyData) : Prop where
  go : ∀ i I IF, Le GF IF → Le IF I → i < ds.length → J.go i I
  yld : ∀ (i : Nat) I IF x I2, Le GF IF → Le IF I → i < ds.length → J.yld i I x I2 → ∃ IF2 d, ds[i]? = some d ∧ New I IF I2 IF2 ∧ DR K IF2 x d
  stop : ∀ i I IF, Le GF IF → Le IF I → i = ds.length → J.stop i I
abbrev Ix := Rho → Feed → R (List PyData)
def tDI (K : PySem.W.Frag) (mg : Str → Option Value) (W : Wish) (it : Ix) : TI := fun σ H Z => ∃ g HF ρ f, Rel K g σ H HF ρ f ∧ ROk K mg g H HF (W σ) (it ρ f) fun ds f1 => ∀ J G GF, Step g H HF G GF → FeedAt g G GF f1 → Yields K J GF ds → Z J G
abbrev DI (X : Cx) (W : Wish) (tg e : Expr) (it : Ix) : Prop := PI X tg e (tDI X.K X.mg W it)
theorem pi_mono {X : Cx} {tg e : Expr} {w w2 : TI} (h : PI X tg e w) (i : ∀ σ H Z, w2 σ H Z → w σ H Z) : PI X tg e w2 := ⟨fun pins s σ H Z I q => h.run pins s σ H Z I (i σ H Z q)⟩
def iSq (K : PySem.W.Frag) (tl : TE) : TI := fun σ H Z => tl σ H fun x H1 => ∃ a, x = .ref a ∧ (((∃ xs, SqL K H1 a xs) ∧ Z (Itl K a) H1) ∨ ((∃ xs, SqT K H1 a xs) ∧ Z (Itt K a) H1))
theorem pi_sq {X : Cx} {tg l : Expr} {tl : TE} (hl : PE X l tl) : PI X tg l (iSq X.K tl) := by
  refine ⟨fun pins s σ H Z I h => thn (hl.run pins s σ H _ I h) fun v s1 ⟨x, H1, I1, rx, a, ex, q⟩ => ?_⟩
  subst ex
  cases rx
  have fresh : ∀ b, b ∈ [s1.heap.objs.size] → FpOk X pins H1 b := fun b hb => by
    have e : b = s1.heap.objs.size := by simpa using hb
    rw [e]
    exact I1.fpOk (Nat.le_refl _) (I1.hok.fresh (Nat.le_refl _))
  rcases q with ⟨⟨xs, hq⟩, q⟩ | ⟨⟨xs, hq⟩, q⟩
  · obtain ⟨its, rv, p, hz⟩ := I1.list hq
    exact wpAny_pyIter_list p.isList ⟨_, [s1.heap.objs.size], _, _, H1, rfl, I1.kept (t' := s1.toks) fun b o e => Heap.get?_push_of_some _ e, turn_list a _, ⟨_, Heap.get?_push_size _ rfl, rfl, rfl⟩, fresh, q⟩
  · obtain ⟨its, rv, p, hz⟩ := I1.tuple hq
    exact wpAny_pyIter_tuple (show s1.heap.IsTuple a its.toArray from p) ⟨_, [s1.heap.objs.size], _, _, H1, rfl, I1.kept (t' := s1.toks) fun b o e => Heap.get?_push_of_some _ e, turn_tuple a _, ⟨_, Heap.get?_push_size _ rfl, rfl, rfl⟩, fresh, q⟩
def iSeq (e : Ex) : Ix := fun ρ f => dt (e ρ f) fun d f1 => match seqOf d with
  | some ds => .ok ds f1
  | none => .no
section
variable {K : PySem.W.Frag} {H : Hp} {a : Addr} {vs : List V} {ds : List PyData}
theorem New.refl {I IF : Hp} (l : Le IF I) : New I IF I IF := ⟨fun _ _ h => h, Le.refl _, fun _ _ h => h, l⟩
theorem yields_list (h : H a = some (.lst vs)) (r : DRs K H vs ds) : Yields K (Itl K a) H ds where
  go := fun i I IF l1 l2 hi => by
    have hv : i < vs.length := by
      rw [r.length]
      exact hi
    exact ⟨vs, vs[i], .inl (.inl (l2 _ _ (l1 _ _ h))), List.getElem?_eq_getElem hv⟩
  yld := fun i I IF x I2 l1 l2 hi y => by
    obtain ⟨rfl, fx⟩ := y
    obtain ⟨v, e1, e2⟩ := r.get (List.getElem?_eq_getElem hi)
    have ex := fx vs (.inl (.inl (l2 _ _ (l1 _ _ h))))
    rw [e1] at ex
    cases ex
    exact ⟨IF, ds[i], List.getElem?_eq_getElem hi, New.refl l2, e2.mono l1⟩
  stop := fun i I IF l1 l2 hi => ⟨vs, .inl (.inl (l2 _ _ (l1 _ _ h))), by rw [r.length]; omega⟩
theorem yields_tup (h : SqT K H a vs) (r : DRs K H vs ds) : Yields K (Itt K a) H ds where
  go := fun i I IF l1 l2 hi => by
    have hv : i < vs.length := by
      rw [r.length]
      exact hi
    exact ⟨vs, vs[i], (l1.trans l2).sqT h, List.getElem?_eq_getElem hv⟩
  yld := fun i I IF x I2 l1 l2 hi y => by
    obtain ⟨rfl, fx⟩ := y
    obtain ⟨v, e1, e2⟩ := r.get (List.getElem?_eq_getElem hi)
    have ex := fx vs ((l1.trans l2).sqT h)
    rw [e1] at ex
    cases ex
    exact ⟨IF, ds[i], List.getElem?_eq_getElem hi, New.refl l2, e2.mono l1⟩
  stop := fun i I IF l1 l2 hi => ⟨vs, (l1.trans l2).sqT h, by rw [r.length]; omega⟩
end
section
variable {X : Cx} {W : Wish} {tg e e2 : Expr} {x y : Ex} {pos p : Pos}
theorem di_seq (h : DE X W e x) : DI X W tg e (iSeq x) := pi_mono (pi_sq h) fun σ H Z ⟨g, HF, ρ, f, rel, q⟩ =>
  tD_dt rel q fun d f1 v G GF r1 s1 dr q1 => by
    cases d <;> try exact (show False from q1).elim
    · cases dr with
      | lst h1 h2 => exact ⟨_, rfl, .inl ⟨⟨_, .inl (.inl (r1.sub _ _ h1))⟩, q1 _ G GF s1 r1.feed (yields_list h1 h2)⟩⟩
    · cases dr with
      | tup h1 h2 => exact ⟨_, rfl, .inr ⟨⟨_, r1.sub.sqT h1⟩, q1 _ G GF s1 r1.feed (yields_tup h1 h2)⟩⟩
def rangeD (lo : Int) (n : Nat) : List PyData := (List.range n).map fun i => .int (lo + (i : Nat))
theorem rangeD_get {lo : Int} {n i : Nat} (h : i < n) : (rangeD lo n)[i]? = some (.int (lo + (i : Nat))) := by
  unfold rangeD
  rw [List.getElem?_map, List.getElem?_range h]
  rfl
theorem rangeD_length (lo : Int) (n : Nat) : (rangeD lo n).length = n := by
  unfold rangeD
  rw [List.length_map, List.length_range]
theorem yields_range {K : PySem.W.Frag} {GF : Hp} {lo : Int} {n : Nat} : Yields K (Itr lo n) GF (rangeD lo n) where
  go := fun i I IF l1 l2 hi => by
    rw [rangeD_length] at hi
    exact hi
  yld := fun i I IF x I2 l1 l2 hi y => by
    rw [rangeD_length] at hi
    obtain ⟨e1, e2⟩ := y
    subst e1
    subst e2
    exact ⟨IF, _, rangeD_get hi, New.refl l2, .int _⟩
  stop := fun i I IF l1 l2 hi => by
    rw [rangeD_length] at hi
    exact Nat.le_of_eq hi.symm
def smallI (i : Int) : Bool := decide (-(2 ^ 62) ≤ i) && decide (i < 2 ^ 62)
theorem smallI_of {i : Int} (h : smallI i = true) : -(2 ^ 62) ≤ i ∧ i < 2 ^ 62 := by
  obtain ⟨h1, h2⟩ := Bool.and_eq_true_iff.mp h
  exact ⟨of_decide_eq_true h1, of_decide_eq_true h2⟩
def iRange1 (e : Ex) : Ix := fun ρ f => pk (e ρ f) fun d f1 => match d with
  | .int n => if smallI n = true then .ok (rangeD 0 n.toNat) f1 else .no
  | _ => .no
def iRange2 (a b : Ex) : Ix := fun ρ f => pk (a ρ f) fun d f1 => pk (b ρ f1) fun d2 f2 => match d, d2 with
  | .int i, .int j => if (smallI i && smallI j) = true then .ok (rangeD i (j - i).toNat) f2 else .no
  | _, _ => .no
theorem di_range1 (hg : Gl X "range") (hm : X.mg "range" = none) (h : DE X W e x) (hs : starEach [e] X.env = (false, eval e X.env) :: starEach [] X.env := by rfl) : DI X W tg (.Call (.Name "range" p) [e] [] pos) (iRange1 x) :=
  pi_mono (pi_range1 hg hm (pa_cons h pa_nil hs) hs) fun σ H Z ⟨g, HF, ρ, f, rel, q⟩ => tD_pk rel q fun d f1 v G GF r1 s1 t1 q1 => by
    cases d <;> try exact (show False from q1).elim
    rename_i n
    simp only at q1
    by_cases c : smallI n = true
    · rw [if_pos c] at q1
      have ev := t1.int
      subst ev
      exact ⟨n, rfl, (smallI_of c).1, (smallI_of c).2, (show ∀ J G2 GF2, Step g H HF G2 GF2 → FeedAt g G2 GF2 f1 → Yields X.K J GF2 (rangeD 0 n.toNat) → Z J G2 from q1) _ G GF s1 r1.feed yields_range⟩
    · rw [if_neg c] at q1
      exact (show False from q1).elim
end
abbrev Gh.at (g : Gh) (IF : Hp) : Gh := { g with HF0 := IF }
section
variable {K : PySem.W.Frag} {mg : Str → Option Value} {E : XK} {g : Gh} {σ σ2 : St} {H IF G GF : Hp} {ρ ρ2 : Rho} {f f2 : Feed}
theorem Rel.sharp (r : Rel K g σ H IF ρ f) : Rel K (g.at IF) σ H IF ρ f := ⟨r.sub, ⟨r.feed.d, r.feed.nf, r.feed.c⟩, r.ext, Le.refl _, fun _ _ h => h, r.len, fun i s e => by
  have k := r.slot i s e
  cases s <;> exact k, r.sep, r.sepD, r.bd⟩
theorem Rel.blunt (r : Rel K g σ H IF ρ f) (b : Rel K (g.at IF) σ2 G GF ρ2 f2) : Rel K g σ2 G GF ρ2 f2 := ⟨b.sub, ⟨b.feed.d, b.feed.nf, b.feed.c⟩, b.ext, r.le.trans b.le, fun a x y => b.new a x (r.new a x y), b.len, fun i s e => by
  have k := b.slot i s e
  cases s <;> exact k, b.sep, b.sepD, b.bd⟩
theorem RetOk.blunt {v : V} {rv : RV} (r : Rel K g σ H IF ρ f) (b : RetOk K (g.at IF) G GF f2 v rv) : RetOk K g G GF f2 v rv := ⟨b.sub, ⟨b.feed.d, b.feed.nf, b.feed.c⟩, b.ext, r.le.trans b.le, fun a x y => b.new a x (r.new a x y), by
  have k := b.val
  cases rv <;> exact k⟩
theorem XF.sharp {α : Type} {x : R α} {P : α → Feed → Prop} (r : Rel K g σ H IF ρ f) (h : XF K mg g E x P) : XF K mg (g.at IF) E x P := by
  cases x with
  | no => exact h
  | ok a f => exact h
  | ex c vs f => exact fun C od G GF q b x => h C od G GF q (b.blunt r) x
end
def forN (T : Tgt) (s : Sm) : List PyData → Rho → Feed → R Ctl
  | [], ρ, f => .ok (.nx ρ) f
  | d :: ds, ρ, f => match T.put d ρ with
    | none => .no
    | some ρ1 => (s ρ1 f).bind fun c f1 => match c with
      | .nx ρ2 => forN T s ds ρ2 f1
      | .ct ρ2 => forN T s ds ρ2 f1
      | .bk ρ2 => .ok (.nx ρ2) f1
      | .rt v => .ok (.rt v) f1
def sFor (it : Ix) (T : Tgt) (s : Sm) : Sm := fun ρ f => (it ρ f).bind fun ds f1 => forN T s ds ρ f1
section
variable {X : Cx} {E : XK} {s : Sm} {it : Ix} {T : Tgt}
theorem drop_at {α : Type} {l : List α} {i : Nat} {x : α} (h : l[i]? = some x) : l.drop i = x :: l.drop (i + 1) := by
  obtain ⟨hi, e⟩ := List.getElem?_eq_some_iff.mp h
  rw [List.drop_eq_getElem_cons hi, e]
theorem for_read {K : PySem.W.Frag} {mg : Str → Option Value} {D : Ends} {σ : St} {H : Hp} (h : tDS K mg E (sFor it T s) D σ H) : tFor (tDI K mg (fun _ => E) it) (T.rd K) (tDS K mg E s) D σ H := by
  obtain ⟨g, HF, ρ, f, rel, q⟩ := h
  refine ⟨g, HF, ρ, f, rel, rel.toE ((XF.of_bind q).mono fun ds f1 k J G GF s1 hf Y => ?_)⟩
  have r1 := rel.step s1 hf
  refine ⟨fun i m σ H => i + m = ds.length ∧ ∃ IF ρ f, Rel K g σ H IF ρ f ∧ Le GF IF ∧ XF K mg g E (forN T s (ds.drop i) ρ f) (FinS K g D), ⟨ds.length, by omega, GF, ρ, f1, r1, Le.refl _, k⟩, fun i m σ H hW => ?_⟩
  obtain ⟨em, IF, ρ, f, r2, l2, q2⟩ := hW
  by_cases hi : i < ds.length
  · refine .inr ⟨Y.go i H IF l2 r2.sub hi, fun σ H => ∃ IF ρ f, Rel K g σ H IF ρ f ∧ Le GF IF ∧ XF K mg g E (forN T s (ds.drop (i + 1)) ρ f) (FinS K g D), fun σ2 H2 z => ⟨m - 1, by omega, by omega, z⟩, fun x I2 y => ?_⟩
    obtain ⟨IF2, d, e1, n, dr⟩ := Y.yld i H IF x I2 l2 r2.sub hi y
    rw [drop_at e1] at q2
    unfold forN at q2
    have r3 := r2.step (n.step (g := g)) (n.feed r2.feed)
    cases z : T.put d ρ with
    | none =>
      simp only [z] at q2
      exact (show False from q2).elim
    | some ρ1 =>
      simp only [z] at q2
      refine T.read r3 dr z fun σ2 r4 => ⟨g.at IF2, IF2, ρ1, f, r4.sharp, ((XF.of_bind q2).sharp r4).mono fun c f2 k => ?_⟩
      cases c with
      | nx ρ2 => exact fun σ3 G2 GF2 r5 => ⟨GF2, ρ2, f2, r4.blunt r5, (l2.trans n.le).trans r5.le, k⟩
      | ct ρ2 => exact fun σ3 G2 GF2 r5 => ⟨GF2, ρ2, f2, r4.blunt r5, (l2.trans n.le).trans r5.le, k⟩
      | bk ρ2 => exact fun σ3 G2 GF2 r5 => (show FinS K g D (.nx ρ2) f2 from k) σ3 G2 GF2 (r4.blunt r5)
      | rt rv => exact fun v G2 GF2 r5 => (show FinS K g D (.rt rv) f2 from k) v G2 GF2 (r5.blunt r4)
  · have e0 : ds.drop i = [] := List.drop_eq_nil_of_le (by omega)
    rw [e0] at q2
    exact .inl ⟨Y.stop i H IF l2 r2.sub (by omega), (show FinS K g D (.nx ρ) f from q2) σ H IF r2⟩
theorem ds_for {tg e : Expr} {body : List Stmt} {pos : Pos} (hp : PassesOwn (model X.prog X.w) X.A X.env X.xe) (hc : X.calm = true) (hi : DI X (fun _ => E) tg e it) (hg : PG X tg (T.rd X.K)) (hb : DSs X E body s)
    (hs : ∀ x, foldedSetIterable e X.env x = pure x := by intro _; rfl) : DS X E (.For tg e body [] pos) (sFor it T s) := ps_mono (ps_for hp hc hi hg hb hs) fun _ _ _ q => for_read q
end
def wipeR (ρ : Rho) : List Nat → Rho
  | [] => ρ
  | v :: vs => (wipeR ρ vs).set v .emp
def noEx {α : Type} : R α → R α
  | .ex _ _ _ => .no
  | r => r
def Tgt.own : Tgt → List Nat
  | .one i => [i]
  | .many l => l
def lcN (T : Tgt) (t : Tx) (e : Ex) (ρ : Rho) : List PyData → List PyData → Feed → R (List PyData)
  | [], acc, f => .ok acc f
  | d :: ds, acc, f => match T.put d ρ with
    | none => .no
    | some ρ1 => (noEx (t ρ1 f)).bind fun b f1 => if b = true then dt (noEx (e ρ1 f1)) fun y f2 => if acc.length < 100000 then lcN T t e ρ ds (acc ++ [y]) f2 else .no
      else lcN T t e ρ ds acc f1
def cLc (it : Ix) (T : Tgt) (t : Tx) (e : Ex) (vs : List Nat) : Ex := fun ρ f => (it ρ f).bind fun ds f1 => (lcN T t e (wipeR ρ vs) ds [] f1).bind fun ys f2 => .ok (.own ys) f2
def noW : Wish := fun _ _ _ _ => False
section
theorem wipe_get (σ : St) (i : Nat) : ∀ vs : List Nat, (wipe σ vs)[i]? = if i ∈ vs ∧ i < σ.length then some none else σ[i]?
  | [] => by simp [wipe]
  | v :: vs => by
    unfold wipe
    rw [List.getElem?_set, wipe_get σ i vs, wipe_length]
    by_cases e : v = i
    · subst e
      by_cases q : v < σ.length
      · simp [q]
      · have z : σ[v]? = none := List.getElem?_eq_none (by omega)
        simp [q, z]
    · have e2 : ¬ i = v := fun h => e h.symm
      simp [e, e2]
theorem wipe_set {σ : St} {vs : List Nat} {j : Nat} (h : j ∈ vs) (x : Option V) : wipe (σ.set j x) vs = wipe σ vs := by
  apply List.ext_getElem?
  intro i
  rw [wipe_get, wipe_get, List.length_set, List.getElem?_set]
  by_cases e : j = i
  · subst e
    by_cases q : j < σ.length
    · simp [q, h]
    · have z : σ[j]? = none := List.getElem?_eq_none (by omega)
      simp [q, z]
  · simp [e]
theorem wipe_wipe (σ : St) (vs : List Nat) : wipe (wipe σ vs) vs = wipe σ vs := by
  apply List.ext_getElem?
  intro i
  rw [wipe_get, wipe_get, wipe_length]
  by_cases e : i ∈ vs ∧ i < σ.length
  · simp [e]
  · simp [e]
theorem wipeR_get (ρ : Rho) (i : Nat) : ∀ vs : List Nat, (wipeR ρ vs)[i]? = if i ∈ vs ∧ i < ρ.length then some .emp else ρ[i]?
  | [] => by simp [wipeR]
  | v :: vs => by
    have hl : ∀ vs : List Nat, (wipeR ρ vs).length = ρ.length := fun vs => by
      induction vs with
      | nil => rfl
      | cons a b ih => unfold wipeR; rw [List.length_set, ih]
    unfold wipeR
    rw [List.getElem?_set, wipeR_get ρ i vs, hl]
    by_cases e : v = i
    · subst e
      by_cases q : v < ρ.length
      · simp [q]
      · have z : ρ[v]? = none := List.getElem?_eq_none (by omega)
        simp [q, z]
    · have e2 : ¬ i = v := fun h => e h.symm
      simp [e, e2]
theorem wipeR_length (ρ : Rho) : ∀ vs : List Nat, (wipeR ρ vs).length = ρ.length
  | [] => rfl
  | v :: vs => by unfold wipeR; rw [List.length_set, wipeR_length ρ vs]
variable {K : PySem.W.Frag} {mg : Str → Option Value} {E : XK} {g : Gh} {σ : St} {H HF : Hp} {ρ : Rho} {f : Feed}
theorem Rel.wiped (r : Rel K g σ H HF ρ f) (vs : List Nat) : Rel K g (wipe σ vs) H HF (wipeR ρ vs) f where
  sub := r.sub
  feed := r.feed
  ext := r.ext
  le := r.le
  new := r.new
  len := by rw [wipe_length, wipeR_length, r.len]
  slot := fun i s e => by
    rw [wipeR_get] at e
    rw [wipe_get, r.len]
    by_cases q : i ∈ vs ∧ i < ρ.length
    · rw [if_pos q] at e
      cases e
      trivial
    · rw [if_neg q] at e ⊢
      exact r.slot i s e
  sep := fun i j ds es e1 e2 e3 => by
    rw [wipeR_get] at e1 e2
    rw [wipe_get, wipe_get, r.len] at e3
    by_cases q : i ∈ vs ∧ i < ρ.length
    · rw [if_pos q] at e1
      cases e1
    · by_cases q2 : j ∈ vs ∧ j < ρ.length
      · rw [if_pos q2] at e2
        cases e2
      · rw [if_neg q] at e1 e3
        rw [if_neg q2] at e2 e3
        exact r.sep i j ds es e1 e2 e3
  sepD := fun i j ds es e1 e2 e3 => by
    rw [wipeR_get] at e1 e2
    rw [wipe_get, wipe_get, r.len] at e3
    by_cases q : i ∈ vs ∧ i < ρ.length
    · rw [if_pos q] at e1
      cases e1
    · by_cases q2 : j ∈ vs ∧ j < ρ.length
      · rw [if_pos q2] at e2
        cases e2
      · rw [if_neg q] at e1 e3
        rw [if_neg q2] at e2 e3
        exact r.sepD i j ds es e1 e2 e3
  bd := r.bd.to (fun a dss e => by
    rw [wipeR_get] at e
    rw [wipe_get, r.len]
    by_cases q : a ∈ vs ∧ a < ρ.length
    · rw [if_pos q] at e
      cases e
    · rw [if_neg q] at e ⊢
      exact ⟨⟨_, e⟩, rfl⟩) (fun a es2 e => by
    rw [wipeR_get] at e
    rw [wipe_get, r.len]
    by_cases q : a ∈ vs ∧ a < ρ.length
    · rw [if_pos q] at e
      cases e
    · rw [if_neg q] at e ⊢
      exact ⟨⟨_, e⟩, rfl⟩) fun a dss p2 qs e1 e2 e3 => e3
/-- an object that no slot holds is written -/
theorem Rel.other {D : Addr} {o : HO} (r : Rel K g σ H HF ρ f) (h0 : g.H0 D = none) (h1 : HF D = none) (h2 : D ≠ g.fa) (h3 : ∀ (i : Nat) (ds : List PyData), ρ[i]? = some (.own ds) → σ[i]? ≠ some (some (.ref D)))
    (h4 : ∀ (i : Nat) (k : Dk), ρ[i]? = some (.dct k) → σ[i]? ≠ some (some (.ref D))) (h5 : ∀ (i : Nat) dss (p : Addr) (qs : List Addr), ρ[i]? = some (.brd dss) → σ[i]? = some (some (.ref p)) → H p = some (.lst (qs.map V.ref)) → D ∉ p :: qs) : Rel K g σ (upd H D o) HF ρ f where
  sub := fun a x e => by
    rw [upd_ne (ne_of_none e h1)]
    exact r.sub a x e
  feed := ⟨by rw [upd_ne (Ne.symm h2)]; exact r.feed.d, r.feed.nf, r.feed.c⟩
  ext := fun a x q e => by
    rw [upd_ne (ne_of_none e h0)]
    exact r.ext a x q e
  le := r.le
  new := r.new
  len := r.len
  slot := fun i s e => by
    have k := r.slot i s e
    cases s with
    | emp => trivial
    | dat d => exact k
    | own ds =>
      obtain ⟨p, vs, z1, z2, z3, z4, z5⟩ := k
      have np : p ≠ D := fun w => h3 i ds e (by rw [z1, w])
      exact ⟨p, vs, z1, z2, z3, by rw [upd_ne np]; exact z4, z5⟩
    | feed => exact k
    | scr ns => exact k
    | dct q =>
      obtain ⟨p, z1, z2, z3, z4⟩ := k
      have np : p ≠ D := fun w => h4 i q e (by rw [z1, w])
      exact ⟨p, z1, z2, z3, z4.mono (fun o e => by rw [upd_ne np]; exact e) (Le.refl _)⟩
    | key ks => exact k
    | brd dss =>
      obtain ⟨p2, qs, z1, z2⟩ := k
      exact ⟨p2, qs, z1, z2.upd (h5 i dss p2 qs e z1 z2.1)⟩
  sep := r.sep
  sepD := r.sepD
  bd := r.bd.to (fun i dss e => ⟨⟨dss, e⟩, rfl⟩) (fun j ds e => ⟨⟨ds, e⟩, rfl⟩) fun a dss p2 qs e1 e2 e3 => by
    obtain ⟨p3, q3, z1, z2⟩ := r.slot a _ e1
    rw [e2] at z1
    cases z1
    have n := h5 a dss p2 q3 e1 e2 z2.1
    rw [upd_ne (fun z => n (by rw [z]; exact List.mem_cons_self))] at e3
    exact e3
theorem gAll_wipe {vs : List Nat} : ∀ {l : List Nat} {xs : List V} {σ : St} {H : Hp} {Q : St → Hp → Prop}, (∀ j ∈ l, j ∈ vs) → gAll l xs σ H Q → gAll l xs σ H fun σ2 H2 => wipe σ2 vs = wipe σ vs ∧ Q σ2 H2
  | [], xs, σ, H, Q, _, h => ⟨h.1, rfl, h.2⟩
  | j :: l, xs, σ, H, Q, hl, h => by
    obtain ⟨v, r, e, h2⟩ := h
    have k := gAll_wipe (fun a ha => hl a (List.mem_cons_of_mem _ ha)) h2
    rw [wipe_set (hl j List.mem_cons_self)] at k
    exact ⟨v, r, e, k⟩
theorem Tgt.wipe {T : Tgt} {vs : List Nat} {v : V} {σ : St} {H : Hp} {Q : St → Hp → Prop} (hl : ∀ j ∈ T.own, j ∈ vs) (h : T.rd K v σ H Q) : T.rd K v σ H fun σ2 H2 => L2.wipe σ2 vs = L2.wipe σ vs ∧ Q σ2 H2 := by
  cases T with
  | one i => exact ⟨wipe_set (hl i (by simp [Tgt.own])) _, h⟩
  | many l =>
    obtain ⟨a, xs, e1, e2, e3, e4⟩ := h
    exact ⟨a, xs, e1, e2, e3, gAll_wipe hl e4⟩
theorem noEx_ok {α : Type} {E2 : XK} {I IF : Hp} {r : R α} {P : α → Feed → Prop} (h : ROk K mg g H HF E (noEx r) P) : ROk K mg g I IF E2 r P := by
  cases r with
  | no => exact h
  | ok a f => exact h
  | ex c vs f => exact (show False from h).elim
theorem lc_read {it : Ix} {T : Tgt} {t : Tx} {e : Ex} {vs : List Nat} {W : Wish} {Q : VK} (hl : ∀ j ∈ T.own, j ∈ vs) (h : tD K mg W (cLc it T t e vs) σ H Q) : tLc (tDI K mg W it) (T.rd K) (tDT K mg noW t) (tD K mg noW e) vs σ H Q := by
  obtain ⟨g, HF, ρ, f, rel, q⟩ := h
  refine ⟨g, HF, ρ, f, rel, q.of_bind.mono fun ds f1 k J G GF s1 hf Y => fun D hD => ?_⟩
  have r1 := rel.step s1 hf
  have w1 := r1.wiped vs
  have hD0 : H D = none := s1.dead hf hD
  have hG0 : g.H0 D = none := rel.dead hD0
  have hfa : D ≠ g.fa := fun z => by
    rw [z] at hD
    exact hf.ne hD
  have h3 : ∀ (i : Nat) (ds : List PyData), (wipeR ρ vs)[i]? = some (.own ds) → (L2.wipe σ vs)[i]? ≠ some (some (.ref D)) := fun i es e1 e2 => by
    obtain ⟨p, us, z1, z2, z3, z4, z5⟩ := w1.slot i _ e1
    rw [z1] at e2
    cases e2
    rw [z4] at hD
    cases hD
  have h3D : ∀ (i : Nat) (k : Dk), (wipeR ρ vs)[i]? = some (.dct k) → (L2.wipe σ vs)[i]? ≠ some (some (.ref D)) := fun i es e1 e2 => by
    obtain ⟨p, z1, z2, z3, z4⟩ := w1.slot i _ e1
    rw [z1] at e2
    cases e2
    exact z4.some hD
  have h3B : ∀ {G' GF' : Hp}, Step g H HF G' GF' → ∀ (i : Nat) dss (p : Addr) (qs : List Addr), (wipeR ρ vs)[i]? = some (.brd dss) → (L2.wipe σ vs)[i]? = some (some (.ref p)) → G' p = some (.lst (qs.map V.ref)) → D ∉ p :: qs := fun {G' GF'} st i dss p qs e1 e2 e3 m => by
    obtain ⟨us, z⟩ := ((rel.wiped vs).bdWas st e1 e2 e3).live m
    rw [hD0] at z
    cases z
  have hGD : GF D = none := by
    cases z : GF D with
    | none => rfl
    | some o =>
      rw [s1.sub _ _ z] at hD
      cases hD
  have stU : ∀ {I IF : Hp} {o : HO}, Step g H HF I IF → IF D = none → Step g H HF (upd I D o) IF := fun {I IF o} s z => ⟨fun a x y e => by
      rw [upd_ne (ne_of_none e hD0)]
      exact s.ext a x y e, s.le, s.new, fun a x e => by
      rw [upd_ne (ne_of_none e z)]
      exact s.sub a x e⟩
  refine ⟨fun i m I => i + m = ds.length ∧ ∃ IF f us acc, Rel K g (L2.wipe σ vs) I IF (wipeR ρ vs) f ∧ Le GF IF ∧ Step g H HF I IF ∧ IF D = none ∧ I D = some (.lst us) ∧ DRs K IF us acc ∧
    ROk K mg g H HF (W σ) ((lcN T t e (wipeR ρ vs) (ds.drop i) acc f).bind fun ys f2 => .ok (.own ys) f2) (Fin K g σ H HF Q), ⟨ds.length, by omega, GF, f1, [], [], w1.other hG0 hGD hfa h3 h3D (h3B s1), Le.refl _, stU s1 hGD, hGD, upd_same, .nil, by rw [List.drop_zero]; exact k⟩, fun i m I hW => ?_⟩
  · obtain ⟨em, IF, f, us, acc, r2, l2, s2, d1, d2, d3, q2⟩ := hW
    by_cases hi : i < ds.length
    · refine .inr ⟨Y.go i I IF l2 r2.sub hi, fun I => ∃ IF f us acc, Rel K g (L2.wipe σ vs) I IF (wipeR ρ vs) f ∧ Le GF IF ∧ Step g H HF I IF ∧ IF D = none ∧ I D = some (.lst us) ∧ DRs K IF us acc ∧
        ROk K mg g H HF (W σ) ((lcN T t e (wipeR ρ vs) (ds.drop (i + 1)) acc f).bind fun ys f2 => .ok (.own ys) f2) (Fin K g σ H HF Q), fun H2 z => ⟨m - 1, by omega, by omega, z⟩, fun x I2 y => ?_⟩
      obtain ⟨IF2, d, e1, n, dr⟩ := Y.yld i I IF x I2 l2 r2.sub hi y
      rw [drop_at e1] at q2
      unfold lcN at q2
      have n1 : Step g I IF I2 IF2 := n.step
      have nf := n.feed r2.feed
      have r3 := r2.step n1 nf
      have aD : ∀ {J2 JF2 f3}, Step g I2 IF2 J2 JF2 → FeedAt g J2 JF2 f3 → JF2 D = none ∧ J2 D = some (.lst us) ∧ DRs K JF2 us acc := fun {J2 JF2 f3} st hf3 => by
        have z1 := n.ext D _ d2
        have z2 : IF2 D = none := n.new D (mo d2) d1
        exact ⟨st.new D (mo z1) z2, st.ext D _ hfa z1, (d3.mono n.le).mono st.le⟩
      cases z : T.put d (wipeR ρ vs) with
      | none =>
        simp only [z] at q2
        exact (show False from q2).elim
      | some ρ1 =>
        simp only [z] at q2
        have ww := wipe_wipe σ vs
        refine (fun hh => by have h9 := T.wipe hl hh; rw [ww] at h9; exact h9) (T.read r3 dr z fun σ2 r4 => ?_)
        rw [bind_bind] at q2
        refine ⟨g, IF2, ρ1, f, r4, noEx_ok ((ROk.of_bind q2).mono fun b f2 k2 J2 JF2 s3 hf3 => ?_)⟩
        have s4 := s2.trans r2.feed (n1.trans nf s3)
        obtain ⟨a1, a2, a3⟩ := aD s3 hf3
        cases b with
        | false =>
          simp only [Bool.false_eq_true, if_false] at k2 ⊢
          exact ⟨JF2, f2, us, acc, (r3.step s3 hf3), (l2.trans n.le).trans s3.le, s4, a1, a2, a3, k2⟩
        | true =>
          simp only [if_true] at k2 ⊢
          rw [dt_bind] at k2
          refine ⟨g, JF2, ρ1, f2, r4.step s3 hf3, noEx_ok ((ROk.of_bind k2).mono fun rv f3 k4 v L LF s5 hf5 rr => ?_)⟩
          cases zz : rv.data with
          | none =>
            simp only [zz] at k4
            exact (show False from k4).elim
          | some y =>
            simp only [zz] at k4
            obtain ⟨MF, s6, hf6, dy⟩ := rr.frz hf5 s5 zz
            have s36 := s3.trans hf3 s6
            obtain ⟨b1, b2, b3⟩ := aD s36 hf6
            by_cases c : acc.length < 100000
            · rw [if_pos c] at k4
              have r7 := (r3.step s36 hf6).other (o := .lst (us ++ [v])) hG0 b1 hfa h3 h3D (h3B (s4.trans hf3 s6))
              refine ⟨us, b2, by rw [b3.length]; exact Nat.lt_of_lt_of_le c (by decide), MF, f3, us ++ [v], acc ++ [y], r7, (l2.trans n.le).trans s36.le, stU (s4.trans hf3 s6) b1, b1, upd_same, b3.snoc dy, k4⟩
            · rw [if_neg c] at k4
              exact (show False from k4).elim
    · have e0 : ds.drop i = [] := List.drop_eq_nil_of_le (by omega)
      rw [e0] at q2
      refine .inl ⟨Y.stop i I IF l2 r2.sub (by omega), ?_⟩
      exact (show Fin K g σ H HF Q (.own acc) f from q2) (.ref D) I IF s2 r2.feed ⟨D, us, rfl, hD0, d1, d2, d3⟩
end
end Dn
end
section
set_option maxHeartbeats 4000000
namespace Dn
open PySem PySem.Spec L2
def cYes : Tx := fun _ f => .ok true f
section
variable {X : Cx} {W : Wish} {E : XK} {tg iter elt : Expr} {ifs : List Expr} {scope : Scope} {own : List (Str × Nat)} {pos spos : Pos} {it : Ix} {T : Tgt} {t : Tx} {e : Ex}
theorem ts_nil : PTs X [] (tDT X.K X.mg noW cYes) := ⟨fun pins s σ H Q I ⟨g, HF, ρ, f, rel, q⟩ => pts_nil.run pins s σ H Q I ((show ∀ G GF, Step g H HF G GF → FeedAt g G GF f → Q true G from q) H HF (Step.refl rel.sub) rel.feed)⟩
theorem ts_one {c : Expr} (h : DT X noW c t) : PTs X [c] (tDT X.K X.mg noW t) := pts_one h
theorem de_lc (hc : X.calm = true) (hN : X.N.Nodup) (hi : DI X W tg iter it) (ok : BlkOk X.N X.env.scope scope own) (hl : ∀ j ∈ T.own, j ∈ own.map (·.2))
    (hg : ∀ (s : Shared) (H : Hp) (C : Addr) (cl : List (Str × Addr)) (fp : List Addr), PG (X.blk s H scope (compEnvC scope cl C X.env) fp) tg (T.rd X.K))
    (ht : ∀ (s : Shared) (H : Hp) (C : Addr) (cl : List (Str × Addr)) (fp : List Addr), PTs (X.blk s H scope (compEnvC scope cl C X.env) fp) ifs (tDT X.K X.mg noW t))
    (he : ∀ (s : Shared) (H : Hp) (C : Addr) (cl : List (Str × Addr)) (fp : List Addr), DE (X.blk s H scope (compEnvC scope cl C X.env) fp) noW elt e)
    (hs : ∀ x, foldedSetIterable iter X.env x = pure x := by intro _; rfl) : DE X W (.ListComp elt [⟨tg, iter, ifs, 0⟩] scope pos) (cLc it T t e (own.map (·.2))) :=
  pe_mono (pe_lc hc hN hi ok hg ht he hs) fun _ _ _ q => lc_read hl q
theorem ds_setLc {i : Nat} {y : Str} {py : Pos} (hc : X.calm = true) (hN : X.N.Nodup) (hy : X.N[i]? = some y) (hyl : X.env.scope.names.lookup y = some .local)
    (hsw : swapsWith (.ListComp elt [⟨tg, iter, ifs, 0⟩] scope pos) (some (.Name y py)) spos.line X.env = pure true) (hi : DI X (fun _ => E) tg iter it) (ok : BlkOk X.N X.env.scope scope own) (hl : ∀ j ∈ T.own, j ∈ own.map (·.2))
    (hg : ∀ (s : Shared) (H : Hp) (C : Addr) (cl : List (Str × Addr)) (fp : List Addr), PG (X.blk s H scope (compEnvC scope cl C X.env) fp) tg (T.rd X.K))
    (ht : ∀ (s : Shared) (H : Hp) (C : Addr) (cl : List (Str × Addr)) (fp : List Addr), PTs (X.blk s H scope (compEnvC scope cl C X.env) fp) ifs (tDT X.K X.mg noW t))
    (he : ∀ (s : Shared) (H : Hp) (C : Addr) (cl : List (Str × Addr)) (fp : List Addr), DE (X.blk s H scope (compEnvC scope cl C X.env) fp) noW elt e)
    (hs : ∀ x, foldedSetIterable iter X.env x = pure x := by intro _; rfl) : DS X E (.Assign [.Name y py] (.ListComp elt [⟨tg, iter, ifs, 0⟩] scope pos) spos) (sSet i (cLc it T t e (own.map (·.2)))) :=
  ps_mono (ps_setLc hc hN hy hyl hsw hi ok hg ht he hs) fun _ _ _ q => lc_read hl (set_read q)
end
structure FnG (P : Program) (w : World) (K : PySem.W.Frag) (mg : Str → Option Value) (base : Heap) (CX : CXT) (k : Nat) (f : Addr) (fd : FuncData) (ps : List Str) (sp : Sp) : Prop where
  size : ∀ vs H Q E, sp vs H Q E → vs.length = ps.length
  go : ∀ (A : Around) (outer : List Env) (s : Shared) (H : Hp) (args : Args) (us : List Value) (vs : List V) (Q : VK) (E : XK), A.guards = some [] → Room k A →
    Env0 P w K mg base A outer s H → BindsTo s fd args (ps.zip us) → Vals vs us → sp vs H Q E → codeAny (model P w) A (.call (.ref f) args) (CR CX outer P w H s Q E) s
theorem FnG.mono {P : Program} {w : World} {K : PySem.W.Frag} {mg : Str → Option Value} {base : Heap} {CX : CXT} {j k : Nat} {f : Addr} {fd : FuncData} {ps : List Str} {sp : Sp} (F : FnG P w K mg base CX j f fd ps sp) (h : j ≤ k) : FnG P w K mg base CX k f fd ps sp :=
  ⟨F.size, fun A o s H a us vs Q E g r => F.go A o s H a us vs Q E g (r.mono h)⟩
section
variable {P : Program} {w : World} {K : PySem.W.Frag} {mg : Str → Option Value} {base : Heap}
/-- a def's body keeps its promise; nothing that is raised leaves it -/
theorem fnG_ok {x qual : Str} {st : Stmt} {f : Addr} {fd : FuncData} {N ps : List Str} {k : Nat} {sp : Sp} (F : Fun K x qual st f fd) (S : FnScope N ps (defScope st)) (size : ∀ vs H Q E, sp vs H Q E → vs.length = ps.length)
    (body : ∀ (cdv : Value) (A : Around) (outer : List Env) (s : Shared) (H : Hp) (vs : List V) (Q : VK) (E : XK), A.guards = some [] → Room k (A.deeper (PyProof.Rows.envOfC qual (defScope st) s.heap.objs.size f cdv)) → sp vs H Q E →
      ∃ t, PSs (cxOf CX0 P w K mg base N qual (defScope st) f cdv A outer s H E).nox (defBody st) t ∧ t { nx := fun _ G => Q .non G, rt := Q } (L2.start N vs) H) : FnG P w K mg base CX0 (k + 1) f fd ps sp := by
  obtain ⟨oc, od, kV, doc, pm, an, cdv, ct, osl, rfl, lk, hcd⟩ := F.ex
  refine ⟨size, fun A outer s H args us vs Q E gd room e0 bnd rel hsp => ?_⟩
  have KX : K.In s.heap := e0.mod.kin.keeps (fun b o e => (e0.bs b o e).1)
  have par : ∀ y ∈ ps.zip us, (defScope st).names.lookup y.1 = some .local ∨
      ((defScope st).names.lookup y.1 = some .cell ∧ ((cellsFrom (s.heap.objs.size + 1) (defScope st).names []).lookup y.1).isSome = true) := by
    intro y hy
    rcases S.par y.1 (List.of_mem_zip hy).1 with q | q
    · exact .inl q
    · exact .inr ⟨q, PySem.W.cellsFrom_some _ _ _ (.inl q)⟩
  refine codeAny_call_function room.depth (KX _ _ lk) rfl S.co S.gen rfl
    (PySem.W.codeRec_of KX hcd) (bnd _ _ _ _ ?_)
  refine wpAny_newFunctionEnv_cells S.kind par ?_
  intro env he s1 x
  subst he
  have lim : s.heap.NoLimit := e0.mod.nolimit.keeps (fun b o e => (e0.bs b o e).1)
  refine ⟨lim.keeps x.toInCall.keep, codeAny_func ?_⟩
  obtain ⟨t, ht, hq⟩ := body cdv A outer s H vs Q E gd (room.deeper _) hsp
  have J0 := inv_start (CX := CX0) (E := E) S room.hd e0 (size _ _ _ _ hsp) rel x
  refine wpAny_mono (ht.nox.run [] s1 (L2.start N vs) H _ J0 hq) ?_ (fun e s' hs => hs)
  intro fl s' hs
  cases fl with
  | next =>
    obtain ⟨σ2, H2, J, q⟩ := hs
    exact ⟨.non, H2, J.os, J.bare, J.base, J.hok, rfl, q⟩
  | ret u =>
    obtain ⟨v, σ2, H2, J, rv, q⟩ := hs
    exact ⟨v, H2, J.os, J.bare, J.base, J.hok, rv, q⟩
  | brk =>
    obtain ⟨_, _, _, q⟩ := hs
    exact q.elim
  | cont =>
    obtain ⟨_, _, _, q⟩ := hs
    exact q.elim
end
section
variable {X : Cx} {CX : CXT} {k : Nat} {f : Addr} {fd : FuncData} {ps : List Str} {sp : Sp} {E : XK} {x : Str} {p pos : Pos} {e : Expr} {es : List Expr} {t : TA}
theorem goG {pins : List (Addr × Obj)} {σ : St} {H : Hp} {s : Shared} {Q : VK} {us : List Value} {vs : List V} (F : FnG X.prog X.w X.K X.mg X.base CX k f fd ps sp) (gd : X.A.guards = some []) (hr : Room k X.A) (hb : Binds X.K fd ps []) (hx : Passes CX X E)
    (I : Inv X pins σ H s) (r : Vals vs us) (h : sp vs H Q E) : wpAny (model X.prog X.w) X.A (call (.ref f) us) (EP X pins σ Q) X.xe s := by
  have hl : (us ++ []).length = ps.length := by
    rw [List.append_nil, ← r.length]
    exact F.size _ _ _ _ h
  have hb2 := hb s us I.kIn hl
  rw [List.append_nil] at hb2
  refine wpAny_call (codeAny_mono (F.go X.A X.stack s H ⟨us, []⟩ us vs Q E gd hr I.env0 hb2 r h) ?_)
  intro res s' hq
  cases res with
  | error e => exact hx pins σ H s e s' I hq
  | ok fl =>
    cases fl with
    | ret u => exact I.after hq
    | next => exact hq.elim
    | brk => exact hq.elim
    | cont => exact hq.elim
theorem callG (F : FnG X.prog X.w X.K X.mg X.base CX k f fd ps sp) (gd : X.A.guards = some []) (hr : Room k X.A) (hg : Gl X x) (hm : X.mg x = some (.ref f)) (hk : PySem.W.keepIn X.K (.ref f) = true) (hb : Binds X.K fd ps []) (hx : Passes CX X E)
    (ha : PA X (e :: es) t) (hdb : (x == ("__debug__" : Str)) = false := by decide) (he : starEach (e :: es) X.env = (false, eval e X.env) :: starEach es X.env := by rfl) (hpl : (backTo pos (starEach es X.env)).any (·.1) = false := by rfl) :
    PE X (.Call (.Name x p) (e :: es) [] pos) (fun σ H Q => t σ H fun vs G => sp vs G Q E) := by
  refine ⟨fun pins s σ H Q I h => wpAny_Call_Name_kw (ld_glob I hg hm ?_ hdb)⟩
  refine PySem.W.callWith_K (h₀ := X.base) I.ok.mod.kin hk (thn (ha.run pos pins s σ H _ I h) ?_) he hpl
  rintro us s1 ⟨vs, H1, I1, r, q⟩
  exact ⟨I1.kIn, goG F gd hr hb hx I1 r q⟩
end
abbrev Fn := List RV → Feed → R RV
def fnSlot : RV → Slot
  | .dat d => .dat d
  | .feed => .feed
  | _ => .emp
/-- what the def's body does, from the arguments -/
def dEnd : R Ctl → R RV := fun r => noEx (r.bind fun c f1 => match c with
  | .nx _ => .ok (.dat .none) f1
  | .rt v => .ok v.up f1
  | _ => .no)
def dBody (n : Nat) (s : Sm) : Fn := fun as f => dEnd (s (as.map fnSlot ++ List.replicate (n - as.length) .emp) f)
theorem dBody_noex (n : Nat) (s : Sm) : ∀ as f c v f2, dBody n s as f ≠ .ex c v f2 := fun as f c v f2 h => by
  unfold dBody dEnd noEx at h
  split at h
  · cases h
  · rename_i h2
    exact h2 c v f2 h
def ARel (K : PySem.W.Frag) (g : Gh) (HF : Hp) (v : V) : RV → Prop
  | .dat d => DR K HF v d
  | .feed => v = .ref g.fa
  | _ => False
theorem ARel.mono {K : PySem.W.Frag} {g : Gh} {HF GF : Hp} (l : Le HF GF) {v : V} {a : RV} (h : ARel K g HF v a) : ARel K g GF v a := by
  cases a with
  | dat d => exact DR.mono l h
  | feed => exact h
  | own ds => exact h
  | lent i ds => exact h
theorem ARels.mono {K : PySem.W.Frag} {g : Gh} {HF GF : Hp} (l : Le HF GF) : ∀ {vs : List V} {as : List RV}, Paired (ARel K g HF) vs as → Paired (ARel K g GF) vs as
  | _, _, .nil => .nil
  | _, _, .cons h r => .cons (h.mono l) (ARels.mono l r)
structure Given (K : PySem.W.Frag) (g : Gh) (H HF : Hp) (vs : List V) (as : List RV) (f : Feed) : Prop where
  sub : Le HF H
  feed : FeedAt g H HF f
  rel : Paired (ARel K g HF) vs as
def Back (K : PySem.W.Frag) (g : Gh) (H HF : Hp) (Q : VK) (rv : RV) (f : Feed) : Prop := ∀ v G GF, Step g H HF G GF → FeedAt g G GF f → RR K g [] H G GF v rv → Q v G
/-- the promise: m the number of parameters -/
def spD (K : PySem.W.Frag) (mg : Str → Option Value) (m : Nat) (F : Fn) : Sp := fun vs H Q E => vs.length = m ∧ ∃ g HF as f, Given K g H HF vs as f ∧ ROk K mg g H HF E (F as f) (Back K g H HF Q)
theorem rep_get {α : Type} {n i : Nat} {x y : α} (h : (List.replicate n x)[i]? = some y) : y = x := by
  rw [List.getElem?_replicate] at h
  by_cases c : i < n
  · rw [if_pos c] at h
    exact (Option.some.inj h).symm
  · rw [if_neg c] at h
    cases h
theorem start_rel {K : PySem.W.Frag} {g : Gh} {H HF : Hp} {vs : List V} {as : List RV} {f : Feed} (N : List Str) (h : Given K g H HF vs as f) : Rel K { g with H0 := H, HF0 := HF } (L2.start N vs) H HF (as.map fnSlot ++ List.replicate (N.length - as.length) .emp) f := by
  have hl : vs.length = as.length := h.rel.length
  have no : ∀ (i : Nat) (ds : List PyData), (as.map fnSlot ++ List.replicate (N.length - as.length) .emp)[i]? ≠ some (.own ds) := fun i ds e => by
    rw [List.getElem?_append] at e
    by_cases c : i < (as.map fnSlot).length
    · rw [if_pos c, List.getElem?_map] at e
      cases z : as[i]? with
      | none => rw [z] at e; cases e
      | some a =>
        rw [z] at e
        cases a <;> cases e
    · rw [if_neg c] at e
      cases rep_get e
  have noD : ∀ (i : Nat) (ds : Dk), (as.map fnSlot ++ List.replicate (N.length - as.length) .emp)[i]? ≠ some (.dct ds) := fun i ds e => by
    rw [List.getElem?_append] at e
    by_cases c : i < (as.map fnSlot).length
    · rw [if_pos c, List.getElem?_map] at e
      cases z : as[i]? with
      | none => rw [z] at e; cases e
      | some a =>
        rw [z] at e
        cases a <;> cases e
    · rw [if_neg c] at e
      cases rep_get e
  have noB : ∀ (i : Nat) (dss : List (List PyData)), (as.map fnSlot ++ List.replicate (N.length - as.length) .emp)[i]? ≠ some (.brd dss) := fun i dss e => by
    rw [List.getElem?_append] at e
    by_cases c : i < (as.map fnSlot).length
    · rw [if_pos c, List.getElem?_map] at e
      cases z : as[i]? with
      | none => rw [z] at e; cases e
      | some a =>
        rw [z] at e
        cases a <;> cases e
    · rw [if_neg c] at e
      cases rep_get e
  refine ⟨h.sub, ⟨h.feed.d, h.feed.nf, h.feed.c⟩, fun _ _ _ e => e, Le.refl _, fun _ _ e => e, ?_, fun i s e => ?_, fun i j ds es e1 => absurd e1 (no i ds), fun i j ds es e1 => absurd e1 (noD i ds), BdSep.noBd noB⟩
  · unfold L2.start
    simp [hl]
  · rw [List.getElem?_append] at e
    unfold L2.start
    rw [List.getElem?_append]
    by_cases c : i < (as.map fnSlot).length
    · have c2 : i < (vs.map some).length := by
        rw [List.length_map] at c ⊢
        omega
      rw [if_pos c] at e
      rw [if_pos c2]
      rw [List.getElem?_map] at e ⊢
      cases z : as[i]? with
      | none => rw [z] at e; cases e
      | some a =>
        rw [z] at e
        have hv : i < vs.length := by
          rw [List.length_map] at c2
          exact c2
        have zv : vs[i]? = some vs[i] := List.getElem?_eq_getElem hv
        obtain ⟨b, zb, hb⟩ := paired_get h.rel zv
        rw [z] at zb
        cases zb
        rw [zv]
        cases a with
        | dat d =>
          cases e
          exact ⟨_, rfl, hb⟩
        | feed =>
          cases e
          exact congrArg (fun q => some (some q)) hb
        | own ds => exact hb.elim
        | lent i ds => exact hb.elim
    · rw [if_neg c] at e
      rw [rep_get e]
      trivial
section
variable {P : Program} {w : World} {K : PySem.W.Frag} {mg : Str → Option Value} {base : Heap}
theorem fnD {x qual : Str} {st : Stmt} {f : Addr} {fd : FuncData} {N ps : List Str} {k : Nat} {s : Sm} (F : Fun K x qual st f fd) (S : FnScope N ps (defScope st))
    (body : ∀ (X : Cx), X.prog = P → X.w = w → X.K = K → X.mg = mg → X.base = base → X.N = N → (∃ (cdv : Value) (A : Around) (outer : List Env) (s : Shared) (H : Hp) (E : XK), A.guards = some [] ∧ Room k (A.deeper (PyProof.Rows.envOfC qual (defScope st) s.heap.objs.size f cdv)) ∧
      X = (cxOf CX0 P w K mg base N qual (defScope st) f cdv A outer s H E).nox) → DSs X (fun _ _ _ => False) (defBody st) s) : FnG P w K mg base CX0 (k + 1) f fd ps (spD K mg ps.length (dBody N.length s)) := by
  refine fnG_ok F S (fun vs H Q E h => h.1) fun cdv A outer s0 H vs Q E gd room h => ?_
  obtain ⟨hl, g, HF, as, fe, hG, hR⟩ := h
  refine ⟨_, body _ rfl rfl rfl rfl rfl rfl ⟨cdv, A, outer, s0, H, E, gd, room, rfl⟩, { g with H0 := H, HF0 := HF }, HF, _, fe, start_rel N hG, ?_⟩
  unfold dBody dEnd at hR
  cases z : s (as.map fnSlot ++ List.replicate (N.length - as.length) .emp) fe with
  | no =>
    rw [z] at hR
    exact (show False from hR).elim
  | ex c v f =>
    rw [z] at hR
    exact (show False from hR).elim
  | ok c f1 =>
    rw [z] at hR
    cases c with
    | nx ρ => exact fun σ G GF r => (show Back K g H HF Q (.dat .none) f1 from hR) .non G GF ⟨r.ext, r.le, r.new, r.sub⟩ ⟨r.feed.d, r.feed.nf, r.feed.c⟩ .non
    | rt rv => exact fun v G GF r => (show Back K g H HF Q rv.up f1 from hR) v G GF ⟨r.ext, r.le, r.new, r.sub⟩ ⟨r.feed.d, r.feed.nf, r.feed.c⟩ (by
        have q := r.val
        cases hq : rv.up with
        | dat d =>
          rw [hq] at q
          exact q
        | own ds =>
          rw [hq] at q
          exact q
        | lent i ds => cases rv <;> cases hq
        | feed =>
          rw [hq] at q
          exact q)
    | bk ρ => exact (show False from hR).elim
    | ct ρ => exact (show False from hR).elim
end
def toArg : RV → Option RV
  | .dat d => some (.dat d)
  | .own ds => some (.dat (.list ds))
  | .feed => some .feed
  | .lent _ _ => none
def cVals : List Ex → Rho → Feed → R (List RV)
  | [], _, f => .ok [] f
  | x :: xs, ρ, f => (x ρ f).bind fun rv f1 => match toArg rv with
    | some a => (cVals xs ρ f1).bind fun as f2 => .ok (a :: as) f2
    | none => .no
def cCall (F : Fn) (xs : List Ex) : Ex := fun ρ f => (cVals xs ρ f).bind fun as f1 => F as f1
section
variable {K : PySem.W.Frag} {mg : Str → Option Value} {W : Wish}
theorem vals_read {β : Type} {P : β → Feed → Prop} : ∀ (xs : List Ex) {k : List RV → Feed → R β} {g : Gh} {σ : St} {H HF : Hp} {ρ : Rho} {f : Feed} {Q : List V → Hp → Prop}, Rel K g σ H HF ρ f →
    ROk K mg g H HF (W σ) ((cVals xs ρ f).bind k) P → (∀ as f1 vs G GF, vs.length = xs.length → Rel K g σ G GF ρ f1 → Step g H HF G GF → Paired (ARel K g GF) vs as → ROk K mg g G GF (W σ) (k as f1) P → Q vs G) → argT K mg W xs σ H Q
  | [], k, g, σ, H, HF, ρ, f, Q, r, h, c => c [] f [] H HF rfl r (Step.refl r.sub) .nil h
  | x :: xs, k, g, σ, H, HF, ρ, f, Q, r, h, c => by
    have h2 : ROk K mg g H HF (W σ) ((x ρ f).bind fun rv f1 => match toArg rv with
        | some a => (cVals xs ρ f1).bind fun as f2 => k (a :: as) f2
        | none => .no) P := by
      have e : ((cVals (x :: xs) ρ f).bind k) = ((x ρ f).bind fun rv f1 => match toArg rv with
          | some a => (cVals xs ρ f1).bind fun as f2 => k (a :: as) f2
          | none => .no) := by
        show ((x ρ f).bind _).bind k = _
        rw [bind_bind]
        congr 1
        funext rv f1
        cases toArg rv with
        | none => rfl
        | some a => exact bind_bind _ _ _
      rw [← e]
      exact h
    have go : ∀ {a : RV} {f1 : Feed} {v : V} {G GF : Hp}, Rel K g σ G GF ρ f1 → Step g H HF G GF → ARel K g GF v a → ROk K mg g G GF (W σ) ((cVals xs ρ f1).bind fun as f2 => k (a :: as) f2) P → argT K mg W xs σ G fun vs H1 => Q (v :: vs) H1 :=
      fun {a f1 v G GF} r1 s1 ha q1 => vals_read xs r1 q1 fun as f2 vs I IF hl r2 s2 drs q3 => c (a :: as) f2 (v :: vs) I IF (congrArg (· + 1) hl) r2 (s1.trans r1.feed s2) (.cons (ha.mono s2.le) drs) q3
    refine ⟨g, HF, ρ, f, r, h2.of_bind.mono fun rv f1 q v G GF s hf rr => ?_⟩
    cases rv with
    | dat d => exact go (a := .dat d) (r.step s hf) s rr (ROk.later q hf s)
    | feed => exact go (a := .feed) (r.step s hf) s rr (ROk.later q hf s)
    | own ds =>
      obtain ⟨IF, s2, h3, dr⟩ := rr.frz hf s (d := .list ds) rfl
      exact go (a := .dat (.list ds)) (r.step s2 h3) s2 dr (ROk.later q h3 s2)
    | lent i ds => exact (show False from q).elim
end
section
variable {X : Cx} {W : Wish} {k : Nat} {f : Addr} {fd : FuncData} {ps : List Str} {F : Fn} {x : Str} {p pos : Pos} {e : Expr} {es : List Expr} {xs : List Ex}
theorem de_call (G : FnG X.prog X.w X.K X.mg X.base CX0 k f fd ps (spD X.K X.mg ps.length F)) (gd : X.A.guards = some []) (hr : Room k X.A) (hg : Gl X x) (hm : X.mg x = some (.ref f)) (hk : PySem.W.keepIn X.K (.ref f) = true) (hb : Binds X.K fd ps [])
    (ha : DA X W (e :: es) xs) (hno : ∀ as f c v f2, F as f ≠ .ex c v f2) (hn : xs.length = ps.length := by rfl) (hdb : (x == ("__debug__" : Str)) = false := by decide) (he : starEach (e :: es) X.env = (false, eval e X.env) :: starEach es X.env := by rfl) (hpl : (backTo pos (starEach es X.env)).any (·.1) = false := by rfl) :
    DE X W (.Call (.Name x p) (e :: es) [] pos) (cCall F xs) := pe_mono (callG (E := fun _ _ _ => False) G gd hr hg hm hk hb pass0 ha hdb he hpl) fun σ H Q ⟨g, HF, ρ, fe, rel, q⟩ =>
  vals_read xs rel q fun as f1 vs I IF hl r1 s1 drs q1 => ⟨hl.trans hn, g, IF, as, f1, ⟨r1.sub, r1.feed, drs⟩, by
    cases z : F as f1 with
    | no =>
      rw [z] at q1
      exact q1
    | ex c v f =>
      rw [z] at q1
      exact (show False from hno as f1 c v f z).elim
    | ok rv f2 =>
      rw [z] at q1
      exact fun v J JF s2 h2 rr => (show Fin X.K g σ H HF Q rv f2 from q1) v J JF (s1.trans r1.feed s2) h2 (rr.any.back r1.feed s1)⟩
end
end Dn
end
section
set_option maxHeartbeats 4000000
namespace Dn
open PySem PySem.Spec L2
def HsB : Bool → Heap → Addr → Array Value → Prop
  | true => fun h a its => h.IsList a its
  | false => fun h a its => h.IsTuple a its
def ItB : Bool → Heap → Addr → Addr → Nat → Prop
  | true => fun h i a n => h.IsListIter i a n
  | false => fun h i a n => h.IsTupleIter i a n
theorem ItB.at {b : Bool} {h h' : Heap} {it a : Addr} {n : Nat} (x : ItB b h it a n) (k : ∀ o, h.get? it = some o → h'.get? it = some o) : ItB b h' it a n := by
  cases b with
  | true => exact Heap.IsListIter.at x k
  | false => exact Heap.IsTupleIter.at x k
theorem ItB.obj {b : Bool} {h : Heap} {it a : Addr} {n : Nat} (x : ItB b h it a n) : ∃ o v w, h.get? it = some o ∧ o.data = .fields #[v, w] := by
  cases b with
  | true => obtain ⟨o, e, _, d⟩ := (x : h.IsListIter it a n); exact ⟨o, _, _, e, d⟩
  | false => obtain ⟨o, e, _, d⟩ := (x : h.IsTupleIter it a n); exact ⟨o, _, _, e, d⟩
theorem HsB.lt {b : Bool} {h : Heap} {a : Addr} {its : Array Value} (x : HsB b h a its) : a < h.objs.size := by
  cases b with
  | true => obtain ⟨o, e, _⟩ := (x : h.IsList a its); exact Heap.lt_size e
  | false => obtain ⟨o, e, _⟩ := (x : h.IsTuple a its); exact Heap.lt_size e
section
variable {prog : Program} {w : World} {A : Around} {E : Value → Shared → Prop} {s : Shared}
end
end Dn
end
section
set_option maxHeartbeats 4000000
namespace Dn
open PySem PySem.Spec L2
open PySem.AutoSeq1 (wpAny_loadPart')
theorem enumT_new (l : Addr) (its : Array Value) (n : Nat) (dct : Option Addr) (sl : Array (Option Value)) :
    Meets (Builtin.«enumerate.__new__» ⟨[.type "enumerate", .ref l], []⟩) (fun _ R s =>
      s.heap.get? l = some { cls := .type "tuple", dict := dct, data := .seq its n, slots := sl } ∧
      R (.ok (.ret (.ref (s.heap.push { cls := .type "tuple_iterator", data := .fields #[.ref l, .int 0 0] }).objs.size)))
        { s with heap := Heap.push (s.heap.push { cls := .type "tuple_iterator", data := .fields #[.ref l, .int 0 0] }) { cls := .type "enumerate", data := .fields #[.none, .bool false, .ref s.heap.objs.size, rawInt 0, .none, .none] } }) :=
  .of_wp fun prog w A R s h => by
    obtain ⟨hp, g, d, tk, os⟩ := s
    obtain ⟨hl, h⟩ := h
    have hsub := sub_enumerate
    have hL : Heap.IsTuple (Shared.heap ⟨hp, g, d, tk, os⟩) l its := ⟨_, hl, rfl, n, rfl⟩
    wp_walk using wpAny_loadPart' hl
    refine wpAny_stack_any fun st => wpAny_pure ?_
    split
    · rename_i c _ _ _ _ _
      cases (c == Value.type "enumerate") <;>
        (wp_walk using wpAny_loadPart' hl, wpAny_pyIter_tuple hL
         exact ⟨_, rfl, h⟩)
    · wp_walk using wpAny_loadPart' hl, wpAny_pyIter_tuple hL
      exact ⟨_, rfl, h⟩
section
variable {prog : Program} {w : World} {A : Around} {E : Value → Shared → Prop} {s : Shared}
theorem enumT_call {l : Addr} {its : Array Value} {Q : Value → Shared → Prop} (hL : s.heap.IsTuple l its)
    (h : ∀ G, IsEnum G (s.heap.objs.size + 1) s.heap.objs.size 0 .none → G.IsTupleIter s.heap.objs.size l 0 → (∀ b o, s.heap.get? b = some o → G.get? b = some o) →
      Q (.ref (s.heap.objs.size + 1)) { s with heap := G }) : wpAny (model prog w) A (call (.type "enumerate") [.ref l]) Q E s := by
  obtain ⟨⟨c, dct, dt, sl⟩, hl, hc, n, hd⟩ := hL
  obtain rfl : c = .type "tuple" := hc
  obtain rfl : dt = .seq its n := hd
  refine callType_new F.called_enumerate (by decide) (F.typeCall_enumerate_1 _) (F.newCall_enumerate_1 _)
    (fun obj => F.args_object_init_2 obj _) F.entry_enumerate_new (enumT_new l its n dct sl) ⟨hl, ?_⟩
  have hz : (s.heap.push { cls := .type "tuple_iterator", data := .fields #[.ref l, .int 0 0] }).objs.size = s.heap.objs.size + 1 := Heap.size_push ..
  have he := Heap.get?_push_size (s.heap.push { cls := .type "tuple_iterator", data := .fields #[.ref l, .int 0 0] })
    (o := { cls := .type "enumerate", data := .fields #[.none, .bool false, .ref s.heap.objs.size, rawInt 0, .none, .none] }) rfl
  show _ ∧ _
  rw [hz] at he ⊢
  exact ⟨⟨_, he, rfl⟩, h _ he ⟨_, Heap.get?_push_of_some _ (Heap.get?_push_size _ rfl), rfl, rfl⟩ fun b o x => Heap.get?_push_of_some _ (Heap.get?_push_of_some _ x)⟩
end
/-- the tuple at a, each item in a new pair -/
def IteT (K : PySem.W.Frag) (a : Addr) : It where
  go i H := ∃ (xs : List V) (x : V), SqT K H a xs ∧ xs[i]? = some x
  yld i H v G := ∃ T x, v = .ref T ∧ H T = none ∧ G = upd H T (.tup [.int (i : Nat), x]) ∧ ∀ xs, SqT K H a xs → xs[i]? = some x
  stop i H := ∃ xs : List V, SqT K H a xs ∧ xs.length = i
theorem turn_enumT {P : Program} {w : World} {K : PySem.W.Frag} {elts : List Expr} {kk : Nat} {tpos : Pos} (a e it : Addr) :
    Turn P w K (.Tuple elts kk tpos) (IteT K a) [e, it] e (fun i h => (∃ old, IsEnum h e it ((i : Nat) : Int) old) ∧ h.IsTupleIter it a i ∧ e ≠ it ∧ a ≠ it ∧ a ≠ e) where
  mem := by simp
  obj := fun i h st b hb => by
    obtain ⟨⟨old, he⟩, ⟨o, ho, hc, hd⟩, _⟩ := st
    rcases (by simpa using hb : b = e ∨ b = it) with z | z
    · subst z
      exact ⟨_, he, fun v q => nomatch q⟩
    · subst z
      exact ⟨o, ho, fun v q => by rw [hd] at q; cases q⟩
  keep := fun i h h2 st k => by
    obtain ⟨⟨old, he⟩, hi, hne⟩ := st
    exact ⟨⟨old, k e (by simp) _ he⟩, hi.at fun o q => k it (by simp) o q, hne⟩
  item := by
    intro X hP hw hK hc i pins s σ H E I hf st hg
    subst hP hw hK
    obtain ⟨⟨old, he⟩, hit, hne, ha1, ha2⟩ := st
    obtain ⟨xs, x, hq, hx⟩ := hg
    obtain ⟨its, rv, p, hz⟩ := I.tuple hq
    obtain ⟨u, hu, ru⟩ := rv.get hx
    have hel : e < s.heap.objs.size := Heap.lt_size he
    have hil : it < s.heap.objs.size := by
      obtain ⟨_, q, _⟩ := hit
      exact Heap.lt_size q
    have hlt : i < its.toArray.size := by
      rw [List.size_toArray]
      exact (List.getElem?_eq_some_iff.mp hu).1
    have hef : e ∉ [it, a] := fun m => by
      rcases (by simpa using m : e = it ∨ e = a) with z | z
      · exact hne z
      · exact ha2 z.symm
    refine wpAny_pyNext_enum_itemD (Draws.tuple (A := X.A.in1) (I.ok.hd hc) it a ha1 its.toArray) he ⟨hit, p⟩ hlt hne hef fun y G tk hy ho hit2 hT hsz hk => ?_
    have ey : y = u := by
      have h2 : its.toArray[i]? = some u := by simpa using hu
      rw [h2] at hy
      exact (Option.some.inj hy).symm
    subst ey
    refine ⟨_, rfl, wpAny_letOwnedTupleGo_enum (s := { s with heap := G, toks := tk + 1 }) ho fun G2 he2 sb => ?_⟩
    have hT2 : G2.get? s.heap.objs.size = some { cls := .type "tuple", data := .seq #[.int i tk, y] } := (sb.2 _ (Nat.ne_of_gt hel)).trans hT
    have new : ObjOk X.prog X.w (upd H s.heap.objs.size (.tup [.int (i : Nat), x])) G2 s.heap.objs.size (.tup [.int (i : Nat), x]) :=
      ⟨by show 2 ≤ sizeLine; decide, [.int i tk, y], .cons ⟨_, rfl⟩ (.cons ru .nil), ⟨_, hT2, rfl, _, rfl⟩⟩
    have I1 : Inv X pins σ (upd H s.heap.objs.size (.tup [.int (i : Nat), x])) { s with heap := G2, toks := tk + 1 } :=
      I.turnedNew (ch := [e, it]) (fun b ob hb q => (sb.2 b (fun z => hb (by simp [z]))).trans (hk b ob (fun z => hb (by simp [z])) (fun z => hb (by simp [z])) q)) hf (Nat.le_refl _) new
    refine ⟨.ref s.heap.objs.size, _, I1, rfl, ⟨_, x, rfl, I.hok.fresh (Nat.le_refl _), rfl, fun ys hy => by rw [I.tuple_inj hy hq]; exact hx⟩, ⟨⟨y, ?_⟩, hit2.1.at fun o q => (sb.2 it (Ne.symm hne)).trans q, hne, ha1, ha2⟩, fun b hb => ?_⟩
    · rw [show ((i + 1 : Nat) : Int) = (i : Int) + 1 by omega]
      exact he2
    · have hb2 : b < s.heap.objs.size := by
        rcases (by simpa using hb : b = e ∨ b = it) with z | z
        · rw [z]; exact hel
        · rw [z]; exact hil
      rw [upd_ne (Nat.ne_of_lt hb2)]
      exact (hf b hb).1
  done := by
    intro X hP hw hK hc i pins s σ H E I hf st hg
    subst hP hw hK
    obtain ⟨⟨old, he⟩, hit, hne, ha1, ha2⟩ := st
    obtain ⟨xs, hq, hx⟩ := hg
    obtain ⟨its, rv, p, hz⟩ := I.tuple hq
    obtain ⟨f0, f1, f2, f3, f4, f5⟩ := hf it (by simp)
    have hn : i = its.toArray.size := by
      rw [List.size_toArray, ← rv.length]
      exact hx.symm
    refine wpAny_pyNext_enum_endD (Draws.tuple (A := X.A.in1) (I.ok.hd hc) it a ha1 its.toArray) he ⟨by rw [← hn]; exact hit, p⟩ fun G eb => ⟨rfl, I.turned (t' := s.toks) (fun b o hb q => eb b o hb q) f0 f1 f3 f4 f5⟩
  self := fun A i s Q E st h => by
    obtain ⟨⟨_, he⟩, _⟩ := st
    exact wpAny_pyIter_enum he h
def iEnumA (K : PySem.W.Frag) (ta : TE) : TI := fun σ H Z => ta σ H fun v H1 => ∃ w, [v] = [w] ∧ ∃ a xs, w = .ref a ∧ ((SqL K H1 a xs ∧ Z (Ite K a) H1) ∨ (SqT K H1 a xs ∧ Z (IteT K a) H1))
theorem pi_enumA {X : Cx} {e : Expr} {ta : TE} {p pos tpos : Pos} {elts : List Expr} {kk : Nat} (hg : Gl X "enumerate") (hm : X.mg "enumerate" = none) (ha : PE X e ta) (hs : starEach [e] X.env = (false, eval e X.env) :: starEach [] X.env := by rfl) :
    PI X (.Tuple elts kk tpos) (.Call (.Name "enumerate" p) [e] [] pos) (iEnumA X.K ta) := by
  refine ⟨fun pins s σ H Z I h => ?_⟩
  have ha2 := (pa_cons ha pa_nil hs).run pos pins s σ H (fun vs G => ∃ v, vs = [v] ∧ ∃ a xs, v = .ref a ∧ ((SqL X.K G a xs ∧ Z (Ite X.K a) G) ∨ (SqT X.K G a xs ∧ Z (IteT X.K a) G))) I ?_
  · refine PyProof.Rows.Call_ (ld_blt I hg hm PyProof.Rows.boot_enumerate (PyProof.Rows.callWith_type1 (thn ha2 fun us s1 ⟨vs, H1, I1, r1, v, e1, a, xs, e2, q⟩ => ?_) hs rfl))
    subst e1
    subst e2
    obtain ⟨u, eu, ru⟩ := vals1 r1
    subst eu
    cases ru
    have fresh : ∀ b ∈ [s1.heap.objs.size + 1, s1.heap.objs.size], FpOk X pins H1 b := fun b hb => by
      have hle : s1.heap.objs.size ≤ b := by
        rcases (by simpa using hb : b = s1.heap.objs.size + 1 ∨ b = s1.heap.objs.size) with z | z
        · rw [z]; exact Nat.le_add_right _ _
        · rw [z]; exact Nat.le_refl _
      exact I1.fpOk hle (I1.hok.fresh hle)
    rcases q with ⟨hq, q⟩ | ⟨hq, q⟩
    · obtain ⟨its, rv, p', hz⟩ := I1.list hq
      refine call_enumerate_list p'.isList fun G he hit hsz hk => wpAny_pyIter_enum he ?_
      exact ⟨s1.heap.objs.size + 1, [s1.heap.objs.size + 1, s1.heap.objs.size], _, _, H1, rfl, I1.kept (t' := s1.toks) hk, turn_enum a (s1.heap.objs.size + 1) s1.heap.objs.size, ⟨⟨.none, he⟩, hit, Nat.succ_ne_self _⟩, fresh, q⟩
    · obtain ⟨its, rv, p', hz⟩ := I1.tuple hq
      have hlt : a < s1.heap.objs.size := by
        obtain ⟨o, ho, _⟩ := p'
        exact Heap.lt_size ho
      refine enumT_call (show s1.heap.IsTuple a its.toArray from p') fun G he hit hk => wpAny_pyIter_enum he ?_
      exact ⟨s1.heap.objs.size + 1, [s1.heap.objs.size + 1, s1.heap.objs.size], _, _, H1, rfl, I1.kept (t' := s1.toks) hk, turn_enumT a (s1.heap.objs.size + 1) s1.heap.objs.size, ⟨⟨.none, he⟩, hit, Nat.succ_ne_self _, Nat.ne_of_lt hlt, Nat.ne_of_lt (Nat.lt_succ_of_lt hlt)⟩, fresh, q⟩
  · exact h
def pairsD (ds : List PyData) : List PyData := ds.mapIdx fun i d => .tuple [.int (i : Nat), d]
theorem pairsD_get {ds : List PyData} {i : Nat} {d : PyData} (h : ds[i]? = some d) : (pairsD ds)[i]? = some (.tuple [.int (i : Nat), d]) := by
  unfold pairsD
  rw [List.getElem?_mapIdx, h]
  rfl
theorem pairsD_length (ds : List PyData) : (pairsD ds).length = ds.length := by
  unfold pairsD
  rw [List.length_mapIdx]
theorem new_pair {K : PySem.W.Frag} {I IF : Hp} {T : Addr} {xs : List V} {ds : List PyData} (l : Le IF I) (h : I T = none) (r : DRs K IF xs ds) : ∃ IF2, New I IF (upd I T (.tup xs)) IF2 ∧ DR K IF2 (.ref T) (.tuple ds) := by
  have hf : IF T = none := by
    cases z : IF T with
    | none => rfl
    | some o =>
      rw [l _ _ z] at h
      cases h
  have l2 : Le IF (upd IF T (.tup xs)) := fun a o e => by
    rw [upd_ne (ne_of_none e hf)]
    exact e
  refine ⟨upd IF T (.tup xs), ⟨fun a o e => ?_, l2, fun a x y => ?_, fun a o e => ?_⟩, .tup (.inl (.inl upd_same)) (r.mono l2)⟩
  · rw [upd_ne (ne_of_none e h)]
    exact e
  · rw [upd_ne (fun z => x.some (by rw [z]; exact h))]
    exact y
  · by_cases z : a = T
    · subst z
      rw [upd_same] at e ⊢
      exact e
    · rw [upd_ne z] at e ⊢
      exact l _ _ e
section
variable {K : PySem.W.Frag} {H : Hp} {a b : Addr} {vs ws : List V} {ds es : List PyData}
theorem yields_enumL (h : H a = some (.lst vs)) (r : DRs K H vs ds) : Yields K (Ite K a) H (pairsD ds) where
  go := fun i I IF l1 l2 hi => by
    rw [pairsD_length, ← r.length] at hi
    exact ⟨vs, vs[i], .inl (.inl (l2 _ _ (l1 _ _ h))), List.getElem?_eq_getElem hi⟩
  yld := fun i I IF x I2 l1 l2 hi y => by
    rw [pairsD_length] at hi
    obtain ⟨T, v, rfl, hT, rfl, fx⟩ := y
    obtain ⟨v2, e1, e2⟩ := r.get (List.getElem?_eq_getElem hi)
    have ex := fx vs (.inl (.inl (l2 _ _ (l1 _ _ h))))
    rw [e1] at ex
    cases ex
    obtain ⟨IF2, n, dr⟩ := new_pair l2 hT (.cons (.int (i : Nat)) (.cons (e2.mono l1) .nil))
    exact ⟨IF2, _, pairsD_get (List.getElem?_eq_getElem hi), n, dr⟩
  stop := fun i I IF l1 l2 hi => ⟨vs, .inl (.inl (l2 _ _ (l1 _ _ h))), by rw [r.length]; rw [pairsD_length] at hi; omega⟩
theorem yields_enumT (h : SqT K H a vs) (r : DRs K H vs ds) : Yields K (IteT K a) H (pairsD ds) where
  go := fun i I IF l1 l2 hi => by
    rw [pairsD_length, ← r.length] at hi
    exact ⟨vs, vs[i], (l1.trans l2).sqT h, List.getElem?_eq_getElem hi⟩
  yld := fun i I IF x I2 l1 l2 hi y => by
    rw [pairsD_length] at hi
    obtain ⟨T, v, rfl, hT, rfl, fx⟩ := y
    obtain ⟨v2, e1, e2⟩ := r.get (List.getElem?_eq_getElem hi)
    have ex := fx vs ((l1.trans l2).sqT h)
    rw [e1] at ex
    cases ex
    obtain ⟨IF2, n, dr⟩ := new_pair l2 hT (.cons (.int (i : Nat)) (.cons (e2.mono l1) .nil))
    exact ⟨IF2, _, pairsD_get (List.getElem?_eq_getElem hi), n, dr⟩
  stop := fun i I IF l1 l2 hi => ⟨vs, (l1.trans l2).sqT h, by rw [r.length]; rw [pairsD_length] at hi; exact hi.symm⟩
end
def zipD : List PyData → List PyData → List PyData
  | d :: ds, e :: es => .tuple [d, e] :: zipD ds es
  | _, _ => []
section
variable {K : PySem.W.Frag} {H : Hp} {a b : Addr} {vs ws : List V} {ds es : List PyData}
end
def iEnum (e : Ex) : Ix := fun ρ f => dt (e ρ f) fun d f1 => match seqOf d with
  | some ds => .ok (pairsD ds) f1
  | none => .no
def iZip (a b : Ex) : Ix := fun ρ f => dt (a ρ f) fun d f1 => dt (b ρ f1) fun e f2 => match d, e with
  | .list ds, .list es => .ok (zipD ds es) f2
  | .tuple ds, .tuple es => .ok (zipD ds es) f2
  | .tuple ds, .list es => .ok (zipD ds es) f2
  | .list ds, .tuple es => .ok (zipD ds es) f2
  | _, _ => .no
section
variable {X : Cx} {W : Wish} {e e2 : Expr} {x y : Ex} {pos p tpos : Pos} {elts : List Expr} {kk : Nat}
theorem di_enum (hg : Gl X "enumerate") (hm : X.mg "enumerate" = none) (h : DE X W e x) (hs : starEach [e] X.env = (false, eval e X.env) :: starEach [] X.env := by rfl) : DI X W (.Tuple elts kk tpos) (.Call (.Name "enumerate" p) [e] [] pos) (iEnum x) :=
  pi_mono (pi_enumA hg hm h hs) fun σ H Z ⟨g, HF, ρ, f, rel, q⟩ => tD_dt rel q fun d f1 v G GF r1 s1 dr q1 => by
    cases d <;> try exact (show False from q1).elim
    · cases dr with
      | lst h1 h2 => exact ⟨_, rfl, _, _, rfl, .inl ⟨.inl (.inl (r1.sub _ _ h1)), q1 _ G GF s1 r1.feed (yields_enumL h1 h2)⟩⟩
    · cases dr with
      | tup h1 h2 => exact ⟨_, rfl, _, _, rfl, .inr ⟨r1.sub.sqT h1, q1 _ G GF s1 r1.feed (yields_enumT h1 h2)⟩⟩
end
end Dn
end
section
set_option maxHeartbeats 4000000
namespace Dn
open PySem PySem.Spec L2
mutual
theorem DR.dpN {K : PySem.W.Frag} {H : Hp} : ∀ {v : V} {d : PyData}, DR K H v d → d.hasDict = false → Dp K H v d
  | _, _, .non, _ => .non
  | _, _, .bl b, _ => .bl b
  | _, _, .int i, _ => .int i
  | _, _, .str x, _ => .str x
  | _, _, .lst h r, c => .lst (.inl (.inl h)) (DRs.dpN r (by simpa [PyData.hasDict] using c))
  | _, _, .tup h r, c => .tup h (DRs.dpN r (by simpa [PyData.hasDict] using c))
  | _, _, .dic _ _ _, c => by simp [PyData.hasDict] at c
  | _, _, .exc _ _ _ _, c => by simp [PyData.hasDict] at c
  | _, _, .dit _ _ _, c => by simp [PyData.hasDict] at c
theorem DRs.dpN {K : PySem.W.Frag} {H : Hp} : ∀ {vs : List V} {ds : List PyData}, DRs K H vs ds → PyData.hasDictAll ds = false → DpAll K H vs ds
  | _, _, .nil, _ => .nil
  | _, _, .cons h r, c => by
    have c2 := Bool.or_eq_false_iff.mp (show (PyData.hasDict _ || PyData.hasDictAll _) = false from c)
    exact .cons (DR.dpN h c2.1) (DRs.dpN r c2.2)
end
theorem Top.dpN {K : PySem.W.Frag} {g : Gh} {H HF : Hp} {v : V} {d : PyData} (t : Top K g H HF v d) (l : Le HF H) (c : d.hasDict = false) : Dp K H v d := by
  rcases t with h | ⟨p, vs, ds, rfl, rfl, _, h4, h5⟩
  · exact (h.mono l).dpN c
  · exact .lst (.inl (.inl h4)) ((h5.mono l).dpN (by simpa [PyData.hasDict] using c))
def rRepr (K : PySem.W.Frag) : List V → Hp → VK → Prop := fun xs H Q => ∃ x d, xs = [x] ∧ Dp K H x d ∧ d.showable = true ∧ d.hasDict = false ∧ d.depth ≤ 60 ∧ d.shown.length ≤ sizeLine ∧ Q (.str d.shown) H
theorem call_repr {X : Cx} (hg : X.A.guards = some []) (hu : X.A.units + 64 < cLine) : CallR X (.builtin "repr") (rRepr X.K) := by
  intro pins s σ H xs us Q I rs h
  obtain ⟨x, d, e1, dp, sh, nd, dep, len, q⟩ := h
  subst e1
  obtain ⟨u, e2, ru⟩ := vals1 rs
  subst e2
  have fin : ∀ (G : Heap) (t : Nat) (tk : Tok), (∀ b o, s.heap.get? b = some o → G.get? b = some o) → EP X pins σ Q (.str d.shown tk) { s with heap := G, toks := t } :=
    fun G t tk k => ⟨.str d.shown, H, I.kept (t' := t) k, ⟨tk, rfl⟩, q⟩
  obtain ⟨as, r⟩ := Dp.reads I d x u dp ru
  cases dp with
  | non =>
    cases ru
    exact PySem.P.repr_of_none (fin s.heap _ _ fun _ _ e => e)
  | bl b =>
    cases ru
    refine PySem.P.repr_of_bool ?_
    have z := fin s.heap (s.toks + 1) s.toks fun _ _ e => e
    cases b <;> exact z
  | int i =>
    obtain ⟨t, rfl⟩ := ru
    exact PySem.P.repr_of_int (by simpa [PyData.showable] using sh) (fin s.heap _ _ fun _ _ e => e)
  | str y =>
    obtain ⟨t, rfl⟩ := ru
    exact PySem.P.repr_of_str (fin s.heap _ _ fun _ _ e => e) (by simpa [PyData.shown] using len)
  | lst h1 h2 =>
    cases ru
    exact repr_of_reads' r sh (PyData.noDict_hsm nd) hg (by omega) (fun _ _ e => e) (fun G tk t k => fin G t tk k) len
  | tup h1 h2 =>
    cases ru
    exact repr_of_reads' r sh (PyData.noDict_hsm nd) hg (by omega) (fun _ _ e => e) (fun G tk t k => fin G t tk k) len
def shows (d : PyData) : Bool := d.showable && !d.hasDict && decide (d.depth ≤ 60) && decide (d.shown.length ≤ 10000000)
def oRepr : Op1 := fun d => if shows d = true then some (.dat (.str d.shown)) else none
theorem oRepr_ok {K : PySem.W.Frag} : UnOk K (fun v H Q => rRepr K [v] H Q) oRepr := fun g H HF f x d rv a t z Q k => by
  obtain ⟨c, rfl⟩ := ite_some z
  unfold shows at c
  simp only [Bool.and_eq_true, Bool.not_eq_true', decide_eq_true_eq] at c
  exact ⟨x, d, rfl, t.dpN a.sub c.1.1.2, c.1.1.1, c.1.1.2, c.1.2, Nat.le_trans c.2 (by decide), k.now a (.str _)⟩
def tyName : PyData → String
  | .none => "NoneType"
  | .bool _ => "bool"
  | .int _ => "int"
  | .str _ => "str"
  | .list _ => "list"
  | .tuple _ => "tuple"
  | .dict _ => "dict"
/-- no exception -/
def okTy : PyData → Bool
  | .dict ((.none, _) :: _) => false
  | .dict ((.bool true, _) :: _) => false
  | _ => true
theorem Top.ty {K : PySem.W.Frag} {g : Gh} {H HF : Hp} {v : V} {d : PyData} (t : Top K g H HF v d) (l : Le HF H) (ok : okTy d = true) : TyX K H v (.type (tyName d)) := by
  rcases t with h | ⟨p, vs, ds, rfl, rfl, _, h4, h5⟩
  · cases h with
    | non => exact .base .non
    | bl b => exact .base (.bl b)
    | int i => exact .base (.int i)
    | str x => exact .base (.str x)
    | lst h r => exact .base (.lst (l _ _ h))
    | dic h _ _ => exact .base (.dK (l _ _ h))
    | exc _ _ _ _ => cases ok
    | dit _ _ _ => cases ok
    | tup h r =>
      rcases h with (h | ⟨o, h⟩) | ⟨o, its, n, h1, h2, _⟩
      · exact .base (.tup (l _ _ h))
      · exact .fTuple (l _ _ h)
      · exact .kTuple h1 h2
  · exact .base (.lst h4)
/-- T's own and what counts as one -/
def isOf (T : String) (d : PyData) : Bool := tyName d == T || (T == "int" && tyName d == "bool")
def known (T : String) : Bool := ["int", "bool", "str", "list", "tuple", "dict"].contains T
theorem isOf_kit {T : String} (h : known T = true) (d : PyData) : kitB (tyName d) T = some (isOf T d) := by
  have hT : T = "int" ∨ T = "bool" ∨ T = "str" ∨ T = "list" ∨ T = "tuple" ∨ T = "dict" := by
    simpa [known] using h
  rcases hT with rfl | rfl | rfl | rfl | rfl | rfl <;> cases d <;> (simp only [isOf, tyName]; decide +kernel)
def oIsi (T : String) : Op1 := fun d => if okTy d = true then some (.dat (.bool (isOf T d))) else none
section
variable {X : Cx} {W : Wish} {fa : Ex} {e : Expr} {p p2 pos : Pos}
theorem de_isi {T : String} (x : Str) (hT : known T = true) (hg : Gl X "isinstance") (hm : X.mg "isinstance" = none) (hg2 : Gl X x) (hm2 : X.mg x = none) (hv : bootBuiltins x = some (.type T)) (ha : DE X W e fa)
    (hn2 : x ≠ "__name__" := by decide) (hdb2 : (x == ("__debug__" : Str)) = false := by decide)
    (he : starEach [e, .Name x p2] X.env = (false, eval e X.env) :: starEach [.Name x p2] X.env := by rfl) (he2 : starEach [.Name x p2] X.env = (false, eval (.Name x p2) X.env) :: starEach [] X.env := by rfl)
    (hpl : (backTo pos (starEach [.Name x p2] X.env)).any (·.1) = false := by rfl) : DE X W (.Call (.Name "isinstance" p) [e, .Name x p2] [] pos) (cUn (oIsi T) fa) :=
  pe_mono (pe_callB call_isi hg hm (by decide +kernel) (pa_cons ha (pa_cons (pe_bltn (v := .ty T) hg2 hm2 hv rfl hn2 hdb2) pa_nil he2) he) (by decide) (by decide) he hpl) fun σ H Q h =>
    un_read (r := fun v H Q => rIsi X.K [v, .ty T] H Q) (fun g H HF f v d rv a t z Q k => by
      obtain ⟨c, rfl⟩ := ite_some z
      exact ⟨v, .ty T, _, _, _, rfl, .ty T, t.ty a.sub c, kit_ty (isOf_kit hT d), k.now a (.bl _)⟩) h
theorem de_glob {x : Str} {v : V} {u : Value} {d : PyData} (hg : Gl X x) (hm : X.mg x = some u) (r : RelV v u) (hd : ∀ HF, DR X.K HF v d) (hdb : (x == ("__debug__" : Str)) = false := by decide) : DE X W (.Name x p) (cC d) :=
  de_const (pe_glob hg hm r hdb) hd
end
theorem DR.ratK {K : PySem.W.Frag} {a : Addr} {od : Option Addr} {i j : Int} {t u : Tok} {n : Nat} {sl : Array (Option Value)} (h : K.lookup a = some ⟨.type "tuple", od, .seq #[.int i t, .int j u] n, sl⟩) (HF : Hp) : DR K HF (.ref a) (.tuple [.int i, .int j]) :=
  .tup (xs := [.int i, .int j]) (.inr ⟨_, #[.int i t, .int j u], n, h, rfl, rfl, by show 2 ≤ sizeLine; decide, .cons ⟨t, rfl⟩ (.cons ⟨u, rfl⟩ .nil)⟩) (.cons (.int i) (.cons (.int j) .nil))
def Feed.get (f : Feed) (k : Str) : Option RV :=
  if k = "turn" then some (.dat (.int f.turn)) else if k = "at" then some (.dat (.int f.spot)) else if k = "left" then some (.dat (.int f.left)) else if k = "cells" then some (.dat (.list (f.cells.map .int))) else none
def Feed.put (f : Feed) (k : Str) (i : Int) : Option Feed :=
  if k = "turn" then some { f with turn := i } else if k = "at" then some { f with spot := i } else if k = "left" then some { f with left := i } else none
def cFeed (k : Str) (e : Ex) : Ex := fun ρ f => (e ρ f).bind fun rv f1 => match rv with
  | .feed => give (f1.get k) f1
  | _ => .no
theorem kne {a b : Str} (h : ¬ a = b) : ¬ (Sum.inr a : Key) = Sum.inr b := fun e => h (Sum.inr.inj e)
theorem feed_at {g : Gh} {H HF : Hp} {f : Feed} (h : FeedAt g H HF f) : DGet H g.fa (.str "turn") (some (.int f.turn)) ∧ DGet H g.fa (.str "at") (some (.int f.spot)) ∧ DGet H g.fa (.str "left") (some (.int f.left)) ∧ DGet H g.fa (.str "cells") (some (.ref g.ca)) := by
  refine ⟨.inl ⟨_, Sum.inr "turn", .inl h.d, rfl, ?_⟩, .inl ⟨_, Sum.inr "at", .inl h.d, rfl, ?_⟩, .inl ⟨_, Sum.inr "left", .inl h.d, rfl, ?_⟩, .inl ⟨_, Sum.inr "cells", .inl h.d, rfl, ?_⟩⟩
  · rw [valV_neg (kne (a := "cells") (b := "turn") (by decide)), valV_neg (kne (a := "at") (b := "turn") (by decide)), valV_neg (kne (a := "left") (b := "turn") (by decide)), valV_pos rfl]
  · rw [valV_neg (kne (a := "cells") (b := "at") (by decide)), valV_pos rfl]
  · rw [valV_neg (kne (a := "cells") (b := "left") (by decide)), valV_neg (kne (a := "at") (b := "left") (by decide)), valV_pos rfl]
  · rw [valV_pos rfl]
theorem feed_get {K : PySem.W.Frag} {g : Gh} {H HF : Hp} {f : Feed} {k : Str} {rv : RV} (h : FeedAt g H HF f) (e : f.get k = some rv) : ∃ v d, rv = .dat d ∧ DGet H g.fa (.str k) (some v) ∧ DR K HF v d := by
  obtain ⟨h1, h2, h3, h4⟩ := feed_at h
  unfold Feed.get at e
  split at e
  · rename_i c
    cases e
    subst c
    exact ⟨_, _, rfl, h1, .int _⟩
  · split at e
    · rename_i c
      cases e
      subst c
      exact ⟨_, _, rfl, h2, .int _⟩
    · split at e
      · rename_i c
        cases e
        subst c
        exact ⟨_, _, rfl, h3, .int _⟩
      · split at e
        · rename_i c
          cases e
          subst c
          exact ⟨_, _, rfl, h4, .lst h.c (DRs.ints _)⟩
        · cases e
theorem feed_put {g : Gh} {H HF : Hp} {f f2 : Feed} {k : Str} {i : Int} (h : FeedAt g H HF f) (e : f.put k i = some f2) : DPut H g.fa (.str k) (.int i) (upd H g.fa (feedO g f2)) := by
  have go : ∀ kvs : List (Key × V), putK [((Sum.inr "cells" : Key), V.ref g.ca), (Sum.inr "at", .int f.spot), (Sum.inr "left", .int f.left), (Sum.inr "turn", .int f.turn)] (Sum.inr k) (.int i) = kvs → feedO g f2 = .dK kvs → DPut H g.fa (.str k) (.int i) (upd H g.fa (feedO g f2)) := fun kvs e1 e2 => by
    rw [e2]
    subst e1
    exact .inl ⟨_, Sum.inr k, h.d, rfl, by show 4 < sizeLine; decide, rfl⟩
  unfold Feed.put at e
  split at e
  · rename_i c
    cases e
    subst c
    exact go _ rfl rfl
  · split at e
    · rename_i c
      cases e
      subst c
      exact go _ rfl rfl
    · split at e
      · rename_i c
        cases e
        subst c
        exact go _ rfl rfl
      · cases e
theorem feed_read {K : PySem.W.Frag} {mg : Str → Option Value} {W : Wish} {k : Str} {x : Ex} {σ : St} {H : Hp} {Q : VK} (h : tD K mg W (cFeed k x) σ H Q) : tDGet (tD K mg W x) (tC (.str k)) σ H Q := by
  obtain ⟨g, HF, ρ, f, rel, q⟩ := h
  refine tD_bind rel q fun rv f1 v G GF r1 s1 rr q1 => ?_
  cases rv with
  | feed =>
    obtain ⟨rv2, z, k2⟩ := give_end r1.feed s1 q1
    obtain ⟨u, d, rfl, dg, dr⟩ := feed_get (K := K) r1.feed z
    exact ⟨g.fa, u, rr, dg, k2.now ⟨r1.sub, r1.feed⟩ dr⟩
  | _ => exact (show False from q1).elim
theorem de_feed {X : Cx} {W : Wish} {o : Expr} {x : Ex} {k : Str} {j : Nat} {kp pos : Pos} (hu : X.A.units + 1 < cLine) (ho : DE X W o x) (hs : NoSl (.Constant (.str k) j kp)) : DE X W (.Subscript o (.Constant (.str k) j kp) pos) (cFeed k x) :=
  pe_mono (pe_dget hu ho pe_str hs) fun _ _ _ h => feed_read h
/-- feed[k] = e -/
def sFeed (k : Str) (o e : Ex) : Sm := fun ρ f => pk (e ρ f) fun d f1 => (o ρ f1).bind fun rv f2 => match d, rv with
  | .int i, .feed => match f2.put k i with
    | some f3 => .ok (.nx ρ) f3
    | none => .no
  | _, _ => .no
theorem Feed.put_cells {f f2 : Feed} {k : Str} {i : Int} (e : f.put k i = some f2) : f2.cells = f.cells := by
  unfold Feed.put at e
  split at e
  · cases e; rfl
  · split at e
    · cases e; rfl
    · split at e
      · cases e; rfl
      · cases e
theorem fput_read {K : PySem.W.Frag} {mg : Str → Option Value} {E : XK} {k : Str} {x o : Ex} {D : Ends} {σ : St} {H : Hp} (h : tDS K mg E (sFeed k o x) D σ H) : sDPut (tD K mg (fun _ => E) o) (tC (.str k)) (tD K mg (fun _ => E) x) D σ H := by
  obtain ⟨g, HF, ρ, f, rel, q⟩ := h
  refine tD_Spk rel q fun d f1 v G GF r1 s1 t1 q1 => tD_S r1 q1 fun rv f2 w I IF r2 s2 rr q2 => ?_
  cases d <;> try exact (show False from q2).elim
  rename_i i
  cases rv with
  | feed =>
    simp only at q2
    cases z : f2.put k i with
    | none =>
      simp only [z] at q2
      exact (show False from q2).elim
    | some f3 =>
      simp only [z] at q2
      have ev := t1.int
      subst ev
      refine ⟨g.fa, _, rr, feed_put r2.feed z, (show FinS K g D (.nx ρ) f3 from q2) σ _ IF ⟨fun a y e => ?_, ⟨upd_same, r2.feed.nf, ?_⟩, fun a y na e => ?_, r2.le, r2.new, r2.len, fun j s e => ?_, r2.sep, r2.sepD, r2.bd.to (fun i dss e => ⟨⟨dss, e⟩, rfl⟩) (fun j ds e => ⟨⟨ds, e⟩, rfl⟩) fun a dss p2 qs e1 e2 e3 => by
        obtain ⟨p3, q3, z1, z2⟩ := r2.slot a _ e1
        rw [e2] at z1
        cases z1
        rw [upd_ne (ne_fa r2.feed z2.1)] at e3
        exact e3⟩⟩
      · rw [upd_ne (ne_of_none e r2.feed.nf)]
        exact r2.sub a y e
      · rw [Feed.put_cells z]
        exact r2.feed.c
      · rw [upd_ne na]
        exact r2.ext a y na e
      · have kk := r2.slot j s e
        cases s with
        | emp => trivial
        | dat d => exact kk
        | own ds =>
          obtain ⟨p, vs, z1, z2, z3, z4, z5⟩ := kk
          exact ⟨p, vs, z1, z2, z3, by rw [upd_ne (ne_fa r2.feed z4)]; exact z4, z5⟩
        | feed => exact kk
        | scr ns => exact kk
        | dct q =>
          obtain ⟨p, z1, z2, z3, z4⟩ := kk
          exact ⟨p, z1, z2, z3, z4.mono (fun o e => by rw [upd_ne (z4.ne r2.feed)]; exact e) (Le.refl _)⟩
        | key ks => exact kk
        | brd dss =>
          obtain ⟨p, qs, z1, z2⟩ := kk
          exact ⟨p, qs, z1, z2.upd (fun m => by
            obtain ⟨us, z⟩ := z2.live m
            exact ne_fa r2.feed z rfl)⟩
  | _ => exact (show False from q2).elim
theorem ds_feed {X : Cx} {E : XK} {o e : Expr} {x y : Ex} {k : Str} {j : Nat} {kp pos pos2 : Pos} (hu : X.A.units + 1 < cLine) (ho : DE X (fun _ => E) o x) (he : DE X (fun _ => E) e y)
    (hs : swapsWith e (some (.Subscript o (.Constant (.str k) j kp) pos2)) pos.line X.env = pure false := by rfl) : DS X E (.Assign [.Subscript o (.Constant (.str k) j kp) pos2] e pos) (sFeed k x y) :=
  ps_mono (ps_dput hu ho pe_str he hs) fun _ _ _ h => fput_read h
end Dn
end
section
set_option maxHeartbeats 4000000
namespace Dn
open PySem PySem.Spec L2
theorem le_new {H : Hp} {p : Addr} {o : HO} (h : H p = none) : Le H (upd H p o) := fun a x e => by
  rw [upd_ne (ne_of_none e h)]
  exact e
theorem cut63 {ns : List Int} (h : ns.length ≤ 63) : cutV (ns.map V.int) none (some 63) = ns.map V.int := by
  unfold cutV
  rw [HT.sIx_none]
  have e : HT.sIx (ns.map V.int).length (ns.map V.int).length (some 63) = (ns.map V.int).length := by
    have := HT.sIx_nat (ns.map V.int).length (ns.map V.int).length 63
    rw [show ((63 : Nat) : Int) = 63 from rfl] at this
    rw [this, List.length_map]
    omega
  rw [e, Nat.sub_zero, List.drop_zero, List.take_length]
def spLaw (K : PySem.W.Frag) : Sp := fun vs H Q _ => ∃ (a : Addr) (ns : List Int), vs = [.ref a] ∧ SqL K H a (ns.map V.int) ∧ ns.length ≤ 63 ∧ ∀ G, Q (.bl true) G
def feed0 (ns : List Int) : Feed := ⟨ns, 0, 0, 0⟩
section
variable {P : Program} {w : World} {K : PySem.W.Frag} {mg mb : Str → Option Value} {k : Nat} {fa a : Addr} {fd : FuncData} {x : Str} {s : Shared} {vs : List Value} {ns : List Int}
/-- the call of the law's def, at the heap behind the top -/
theorem law_go (KX : K.In s.heap) (hns : s.heap.Ns mainGlobals mg) (hb : s.heap.Ns builtinsNs mb) (hbb : ∀ x : Str, x ≠ "__name__" → mb x = bootBuiltins x) (hlim : s.heap.NoLimit) (hg : s.gens = #[])
    (ha : s.heap.get? a = some { cls := .type "list", data := .seq vs.toArray }) (hi : PyProof.Rows.IntsAre vs ns) (hl : ns.length ≤ 63) (hr : Room k callerA)
    (F : ∀ base : Heap, K.In base → base.Ns mainGlobals mg → FnG P w K mg base CX0 k fa fd [x] (spLaw K)) (bnd : ∀ (s : Shared) (u : Value), BindsTo s fd ⟨[u], []⟩ [(x, u)]) :
    codeAny (model P w) callerA (.call (.ref fa) ⟨[.ref a], []⟩) (fun r s2 => r = .ok (.ret (.bool true)) ∧ OldK s.heap s2.heap ∧ s2.os = s.os ∧ PyProof.Rows.AllBare s2.gens) s := by
  have rv := L2.vals_ints hi
  have go : ∀ H : Hp, Only H → SqL K H a (ns.map V.int) → HOk P w H s.heap → (∀ b, H b ≠ none → b = a ∧ K.lookup a = none) →
      codeAny (model P w) callerA (.call (.ref fa) ⟨[.ref a], []⟩) (fun r s2 => r = .ok (.ret (.bool true)) ∧ OldK s.heap s2.heap ∧ s2.os = s.os ∧ PyProof.Rows.AllBare s2.gens) s := by
    intro H hO hS hok hA
    have nodict : ∀ {b : Addr} {o : Obj} {es : Array DictEntry} {ep : Nat}, s.heap.get? b = some o → o.data = .dict es ep → H b = none := by
      intro b o es ep e d
      cases q : H b with
      | none => rfl
      | some u =>
        obtain ⟨e2, _⟩ := hA b (by rw [q]; exact Option.some_ne_none _)
        subst e2
        rw [ha] at e
        cases e
        cases (show Data.seq vs.toArray _ = Data.dict es ep from d)
    have nsB : ∀ {b : Addr} {m : Str → Option Value}, s.heap.Ns b m → (hidT s.heap H).Ns b m := by
      rintro b m ⟨o, es, ep, e, d, r⟩
      exact ⟨o, es, ep, hidT_get e (nodict e d), d, r⟩
    have KB : K.In (hidT s.heap H) := by
      intro b o e
      refine hidT_get (KX b o e) ?_
      cases q : H b with
      | none => rfl
      | some u =>
        obtain ⟨e2, e3⟩ := hA b (by rw [q]; exact Option.some_ne_none _)
        subst e2
        rw [e3] at e
        cases e
    obtain ⟨mc, n1, n2⟩ := hlim
    have env : Env0 P w K mg (hidT s.heap H) callerA [] s H := {
      frames := rfl
      mod := ⟨KB, nsB hns, ⟨mb, nsB hb, hbb⟩, ⟨mc, nsB n1, n2⟩⟩
      bs := fun b o e => of_hidT e
      bsz := Nat.le_of_eq (hidT_size _ _)
      funs := trivial
      frf := fun b hb => by cases (show b ∈ ([] : List Addr) from hb)
      hok := hok
      bare := .of_eq hg }
    refine codeAny_mono ((F _ KB (nsB hns)).go callerA [] s H ⟨[.ref a], []⟩ [.ref a] [.ref a] (fun v _ => v = .bl true) (fun _ _ _ => False) rfl hr env (bnd s (.ref a)) (.cons rfl .nil) ⟨a, ns, rfl, hS, hl, fun _ => rfl⟩) ?_
    intro r s2 h
    cases r with
    | error e => exact (show False from h).elim
    | ok fl =>
      cases fl with
      | next => exact (show False from h).elim
      | brk => exact (show False from h).elim
      | cont => exact (show False from h).elim
      | ret u =>
        obtain ⟨v, G, os, bare, un, hok2, r2, q⟩ := h
        obtain rfl : v = .bl true := q
        obtain rfl : u = Value.bool true := r2
        refine ⟨rfl, OldK.of_keep ?_, os, bare⟩
        intro b o e
        cases q : H b with
        | none => exact un.keep b o e q (fun z => by cases (show b ∈ ([] : List Addr) from z)) (fun z => by cases z)
        | some u =>
          rcases hO b with z | ⟨ob, xs, z⟩
          · rw [q] at z
            cases z
          · have e1 := (hok b _ z).1
            have e2 := (hok2 b _ (un.frzs b ob _ z)).1
            rw [e] at e1
            cases e1
            exact e2
  cases hk : K.lookup a with
  | some o =>
    have e := KX a o hk
    rw [ha] at e
    cases e
    refine go (fun _ => none) (fun _ => .inl rfl) (.inr ⟨_, vs.toArray, _, hk, rfl, rfl, rfl, ?_, rv⟩) (fun b u z => by cases z) (fun b z => absurd rfl z)
    rw [List.size_toArray, hi.length]
    exact Nat.le_trans hl (by decide)
  | none =>
    let o : Obj := { cls := .type "list", data := .seq vs.toArray }
    refine go (fun b => if b = a then some (.frz o (.lst (ns.map V.int))) else none) (fun b => ?_) (.inl (.inr ⟨o, if_pos rfl⟩)) (fun b u z => ?_) (fun b z => ?_)
    · by_cases c : b = a
      · exact .inr ⟨_, _, if_pos c⟩
      · exact .inl (if_neg c)
    · by_cases c : b = a
      · subst c
        replace z : (if b = b then some (HO.frz o (.lst (ns.map V.int))) else none) = some u := z
        rw [if_pos rfl] at z
        cases z
        exact ⟨ha, by rw [List.length_map]; exact Nat.le_trans hl (by decide), vs, _, rv, ha⟩
      · replace z : (if b = a then some (HO.frz o (.lst (ns.map V.int))) else none) = some u := z
        rw [if_neg c] at z
        cases z
    · by_cases c : b = a
      · exact ⟨c, hk⟩
      · exact absurd (if_neg c) z
end
/-- what k_head leaves -/
theorem walkG {l : PySem.W.OpenLaw} {k : Nat} {q : Program} {loose : List Str} {XP : (Str → Option Value) → Heap → Prop} {YP : World → Heap → Prop} {d : DefRec} {K : Params → PySem.W.Frag} {x : Str}
    (hn : l.most = some 63) (hdf : d.params.defaults = []) (hr : Room k callerA) (hY : ∀ (w : World) (h : Heap), YP w h → (K w.params).In h)
    (F : ∀ (w : World) (mg : Str → Option Value) (fa : Addr) (h : Heap), (K w.params).In h → h.Ns mainGlobals mg → mg d.name = some (.ref fa) →
      ∃ fd : FuncData, (∀ (s : Shared) (u : Value), BindsTo s fd ⟨[u], []⟩ [(x, u)]) ∧
        ∀ base : Heap, (K w.params).In base → base.Ns mainGlobals mg → FnG l.prog w (K w.params) mg base CX0 k fa fd [x] (spLaw (K w.params))) :
    PySem.W.WalkO q loose XP YP l.row.toRowW d [] (fun f vs => PySem.call f vs) := by
  refine Att.attach_call hn hdf ?_
  intro w s0 s1 mg mb fa o pm cd doc a vs ns G Y ho hd hcd hmg hobj hints hlen hg
  obtain ⟨fd, hb, hF⟩ := F w mg fa _ (hY w _ Y) G.T.g hmg
  exact law_go (hY w _ Y) G.T.g G.T.b G.T.builtins G.T.nolimit hg hobj hints hlen hr hF hb
end Dn
end
section
set_option maxHeartbeats 4000000
namespace Dn
open PySem PySem.Spec L2
section
variable {X : Cx} {W : Wish} {a b : Expr} {fa fb : Ex} {pos : Pos}
theorem de_add (ha : DE X W a fa) (hb : DE X W b fb) : DE X W (.BinOp a .Add b pos) (cBin oAdd fa fb) := de_bin (op_add.or (op_cat.or (op_catA.or op_add_str))) (intsI_ok.or (catL_ok.or (catT_ok.or catS_ok))) ha hb
theorem de_sub (ha : DE X W a fa) (hb : DE X W b fb) : DE X W (.BinOp a .Sub b pos) (cBin oSub fa fb) := de_bin op_sub intsI_ok ha hb
theorem mulC_of {i j : Int} (h : mulC i j = true) : CMulW i j := show i.natAbs.log2 + j.natAbs.log2 < 1000000 from of_decide_eq_true h
theorem divC_of {i j : Int} (h : divC i j = true) : CDivW i j := by
  obtain ⟨h1, h2⟩ := Bool.and_eq_true_iff.mp h
  exact ⟨of_decide_eq_true h1, of_decide_eq_true h2⟩
theorem powC_of {i j : Int} (h : powC i j = true) : CPow i j := by
  obtain ⟨h1, h2⟩ := Bool.and_eq_true_iff.mp h
  obtain ⟨h3, h4⟩ := Bool.and_eq_true_iff.mp h1
  exact ⟨of_decide_eq_true h3, of_decide_eq_true h4, of_decide_eq_true h2⟩
theorem de_mul (ha : DE X W a fa) (hb : DE X W b fb) : DE X W (.BinOp a .Mult b pos) (cBin oMul fa fb) := de_bin (op_mulW.or (op_rep.or op_repA)) ((intsOp_ok fun _ _ => mulC_of).or (repL_ok.or repT_ok)) ha hb
theorem de_fdiv (ha : DE X W a fa) (hb : DE X W b fb) : DE X W (.BinOp a .FloorDiv b pos) (cBin oDiv fa fb) := de_bin op_fdivW (intsOp_ok fun _ _ => divC_of) ha hb
theorem de_mod (ha : DE X W a fa) (hb : DE X W b fb) : DE X W (.BinOp a .Mod b pos) (cBin oMod fa fb) := de_bin op_mod (intsOp_ok fun _ _ h => of_decide_eq_true h) ha hb
theorem de_pow (ha : DE X W a fa) (hb : DE X W b fb) : DE X W (.BinOp a .Pow b pos) (cBin oPow fa fb) := de_bin op_pow (intsOp_ok fun _ _ => powC_of) ha hb
theorem de_neg (ha : DE X W a fa) : DE X W (.UnaryOp .USub a pos) (cUn oNeg fa) := de_un un_neg oNeg_ok ha
theorem op_eqE (hu : X.A.units < cLine) : OpR X (compareOp .Eq) (rEqE X.K) := by
  intro pins s σ H x y v u Q I rx ry h
  obtain ⟨p, q, vs, rfl, rfl, hp, hq, k⟩ := h
  obtain rfl : v = Value.ref p := rx
  obtain rfl : u = Value.ref q := ry
  obtain ⟨its, rv, t1, _⟩ := I.tuple hp
  obtain ⟨its2, rv2, t2, _⟩ := I.tuple hq
  cases rv2
  have hl : its.length = vs.length := rv.length.symm
  have r := SeqAt.RcAt.tuples (A := X.A) (e := fun _ => true) (show s.heap.IsTuple p its.toArray from t1) (show s.heap.IsTuple q #[] from t2) hu fun j h1 h2 => by simp at h2
  have e : ((List.range (min its.toArray.size (#[] : Array Value).size)).all (fun _ => true) && its.toArray.size == (#[] : Array Value).size) = vs.isEmpty := by
    cases vs <;> cases its <;> simp at hl ⊢
  rw [e] at r
  exact r X.prog X.w X.xe _ ⟨.bl vs.isEmpty, H, I, rfl, k⟩
theorem op_eqA (hu : X.A.units + 64 < cLine) : OpR X (compareOp .Eq) (fun x y H Q => rEq x y H Q ∨ rEqD X.K x y H Q ∨ rEqE X.K x y H Q) := op_eq.or ((op_eqD hu).or (op_eqE (Nat.lt_of_le_of_lt (Nat.le_add_right _ 64) hu)))
theorem op_neA (hu : X.A.units + 64 < cLine) : OpR X (compareOp .NotEq) (fun x y H Q => rNe x y H Q ∨ rNeD X.K x y H Q) := op_ne.or (op_neD hu)
theorem de_eq (hu : X.A.units + 64 < cLine) (ha : DE X W a fa) (hb : DE X W b fb) : DE X W (.Compare a [.Eq] [b] pos) (cBin oEq fa fb) := de_cmp (op_eqA hu) oEq_ok ha hb (nomark _)
theorem de_ne (hu : X.A.units + 64 < cLine) (ha : DE X W a fa) (hb : DE X W b fb) : DE X W (.Compare a [.NotEq] [b] pos) (cBin oNe fa fb) := de_cmp (op_neA hu) oNe_ok ha hb (nomark _)
theorem de_lt (ha : DE X W a fa) (hb : DE X W b fb) : DE X W (.Compare a [.Lt] [b] pos) (cBin oLt fa fb) := de_cmp op_lt intsB_ok ha hb (nomark _)
theorem de_gt (ha : DE X W a fa) (hb : DE X W b fb) : DE X W (.Compare a [.Gt] [b] pos) (cBin oGt fa fb) := de_cmp op_gt intsB_ok ha hb (nomark _)
theorem de_ge (ha : DE X W a fa) (hb : DE X W b fb) : DE X W (.Compare a [.GtE] [b] pos) (cBin oGe fa fb) := de_cmp op_ge intsB_ok ha hb (nomark _)
theorem dt_eq (hu : X.A.units + 64 < cLine) (ha : DE X W a fa) (hb : DE X W b fb) : DT X W (.Compare a [.Eq] [b] pos) (cT (cBin oEq fa fb)) := dt_cmp (op_eqA hu) oEq_ok ha hb (nomark _)
theorem dt_ne (hu : X.A.units + 64 < cLine) (ha : DE X W a fa) (hb : DE X W b fb) : DT X W (.Compare a [.NotEq] [b] pos) (cT (cBin oNe fa fb)) := dt_cmp (op_neA hu) oNe_ok ha hb (nomark _)
theorem dt_lt (ha : DE X W a fa) (hb : DE X W b fb) : DT X W (.Compare a [.Lt] [b] pos) (cT (cBin oLt fa fb)) := dt_cmp op_lt intsB_ok ha hb (nomark _)
theorem dt_gt (ha : DE X W a fa) (hb : DE X W b fb) : DT X W (.Compare a [.Gt] [b] pos) (cT (cBin oGt fa fb)) := dt_cmp op_gt intsB_ok ha hb (nomark _)
theorem dt_ge (ha : DE X W a fa) (hb : DE X W b fb) : DT X W (.Compare a [.GtE] [b] pos) (cT (cBin oGe fa fb)) := dt_cmp op_ge intsB_ok ha hb (nomark _)
theorem dt_in (ha : DE X W a fa) (hb : DE X W b fb) (hm : behindInMarks .In b = false := by rfl) : DT X W (.Compare a [.In] [b] pos) (cT (cBin (oInF false) fa fb)) := dt_cmp op_in_seq oInF_ok ha hb hm
theorem dt_isN (ha : DE X W a fa) {j p2} : DT X W (.Compare a [.Is] [.Constant .none j p2] pos) (cT (cBin (oIsN false) fa (cC .none))) := dt_cmp op_isN isN_ok ha de_non (nomark _)
end
section
variable {X : Cx} {W : Wish} {a b : Expr} {fa fb : Ex} {p pos : Pos}
theorem de_abs (hg : Gl X "abs") (hm : X.mg "abs" = none) (ha : DE X W a fa) (he : starEach [a] X.env = (false, eval a X.env) :: starEach [] X.env := by rfl) : DE X W (.Call (.Name "abs" p) [a] [] pos) (cUn oAbs fa) :=
  de_call1 call_abs oAbs_ok hg hm (by decide +kernel) ha (by decide) (by decide) he
theorem de_len (hg : Gl X "len") (hm : X.mg "len" = none) (ha : DE X W a fa) (he : starEach [a] X.env = (false, eval a X.env) :: starEach [] X.env := by rfl) : DE X W (.Call (.Name "len" p) [a] [] pos) (cUn oLen fa) :=
  de_call1 call_len_seq oLen_ok hg hm (by decide +kernel) ha (by decide) (by decide) he
theorem de_sum (hc : X.calm = true) (hg : Gl X "sum") (hm : X.mg "sum" = none) (ha : DE X W a fa) (he : starEach [a] X.env = (false, eval a X.env) :: starEach [] X.env := by rfl) : DE X W (.Call (.Name "sum" p) [a] [] pos) (cUn oSum fa) :=
  de_call1 (cr_sum hc) oSum_ok hg hm (by decide +kernel) ha (by decide) (by decide) he
theorem de_repr (gd : X.A.guards = some []) (hu : X.A.units + 64 < cLine) (hg : Gl X "repr") (hm : X.mg "repr" = none) (ha : DE X W a fa) (he : starEach [a] X.env = (false, eval a X.env) :: starEach [] X.env := by rfl) : DE X W (.Call (.Name "repr" p) [a] [] pos) (cUn oRepr fa) :=
  de_call1 (call_repr gd hu) oRepr_ok hg hm (by decide +kernel) ha (by decide) (by decide) he
theorem de_int1 (hg : Gl X "int") (hm : X.mg "int" = none) (ha : DE X W a fa) (he : starEach [a] X.env = (false, eval a X.env) :: starEach [] X.env := by rfl) : DE X W (.Call (.Name "int" p) [a] [] pos) (cUn oInt fa) :=
  de_callTy1 call_int1 oInt_ok hg hm (by decide +kernel) ha (by decide) (by decide) he
theorem de_tuple (hg : Gl X "tuple") (hm : X.mg "tuple" = none) (ha : DE X W a fa) (he : starEach [a] X.env = (false, eval a X.env) :: starEach [] X.env := by rfl) : DE X W (.Call (.Name "tuple" p) [a] [] pos) (cUn oTuple fa) :=
  de_callTy1 call_tuple_of oTuple_ok hg hm (by decide +kernel) ha (by decide) (by decide) he
theorem de_max2 (hc : X.calm = true) (hg : Gl X "max") (hm : X.mg "max" = none) (ha : DE X W a fa) (hb : DE X W b fb) (he : starEach [a, b] X.env = (false, eval a X.env) :: starEach [b] X.env := by rfl)
    (he2 : starEach [b] X.env = (false, eval b X.env) :: starEach [] X.env := by rfl) (hpl : (backTo pos (starEach [b] X.env)).any (·.1) = false := by rfl) : DE X W (.Call (.Name "max" p) [a, b] [] pos) (cBin oMax fa fb) :=
  de_call2 (call_max2 hc) oMax_ok hg hm (by decide +kernel) ha hb (by decide) (by decide) he he2 hpl
end
def boolsOf : List PyData → Option (List Bool)
  | [] => some []
  | .bool b :: r => (boolsOf r).map (b :: ·)
  | _ :: _ => none
theorem boolsOf_some : ∀ {ds : List PyData} {bs : List Bool}, boolsOf ds = some bs → ds = bs.map PyData.bool
  | [], bs, h => by cases h; rfl
  | d :: r, bs, h => by
    cases d <;> try cases h
    rename_i b
    cases q : boolsOf r with
    | none =>
      simp only [boolsOf, q] at h
      cases h
    | some ms =>
      simp only [boolsOf, q] at h
      cases h
      rw [List.map_cons, ← boolsOf_some q]
theorem DRs.toBools {K : PySem.W.Frag} {H : Hp} : ∀ {bs : List Bool} {vs : List V}, DRs K H vs (bs.map PyData.bool) → vs = bs.map V.bl
  | [], _, .nil => rfl
  | b :: r, _, .cons h t => by
    cases h
    rw [List.map_cons, ← DRs.toBools t]
def oAll : Op1 := fun d => match d with
  | .list xs => (boolsOf xs).map fun bs => .dat (.bool (bs.all id))
  | _ => none
theorem oAll_ok {K : PySem.W.Frag} : UnOk K (fun v H Q => rAll K [v] H Q) oAll := fun g H HF f x d rv a t z Q k => by
  cases d <;> try cases z
  rename_i xs
  unfold oAll at z
  cases q : boolsOf xs with
  | none => simp only [q] at z; cases z
  | some bs =>
    simp only [q] at z
    cases z
    have e1 := boolsOf_some q
    subst e1
    obtain ⟨p, vs, rfl, hp, rp⟩ := t.lst a.sub
    have v1 := rp.toBools
    subst v1
    exact ⟨p, bs, rfl, .inl (.inl hp), k.now a (.bl _)⟩
theorem de_all {X : Cx} {W : Wish} {a : Expr} {fa : Ex} {p pos : Pos} (hc : X.calm = true) (hg : Gl X "all") (hm : X.mg "all" = none) (ha : DE X W a fa) (he : starEach [a] X.env = (false, eval a X.env) :: starEach [] X.env := by rfl) : DE X W (.Call (.Name "all" p) [a] [] pos) (cUn oAll fa) :=
  de_call1 (cr_all hc) oAll_ok hg hm (by decide +kernel) ha (by decide) (by decide) he
section
variable {X : Cx} {es : List Expr} {l : List Nat} {i : Nat} {y : Str} {pos : Pos}
abbrev DG (X : Cx) (tg : Expr) (T : Tgt) : Prop := PG X tg (T.rd X.K)
theorem dg_one (hN : X.N.Nodup) (hi : X.N[i]? = some y) (hx : Loc X.env.scope y) (hf : X.fn y = true ∨ X.env.scope.names.lookup y = some .local := by first | exact .inl rfl | exact .inr rfl | assumption) : DG X (.Name y pos) (.one i) := pg_name hN hi hx hf
theorem dga_nil : PGs X [] (gAll []) := pgs_nil
theorem dga_cons {e : Expr} (h : PG X e (gName i)) (h2 : PGs X es (gAll l)) (hs : (assignEach (e :: es) X.env).map (·.2) = assign e X.env :: (assignEach es X.env).map (·.2) := by rfl) : PGs X (e :: es) (gAll (i :: l)) := pgs_cons h h2 hs
theorem dg_many {k : Nat} (hc : X.calm = true) (h : PGs X es (gAll l)) (hn : (assignEach es X.env).length = l.length := by rfl) (hst : (assignEach es X.env).findIdx? (·.1) = none := by rfl) : DG X (.Tuple es k pos) (.many l) := pg_tup hc h hn hst
end
def Has (P : Program) (w : World) (K : PySem.W.Frag) (mg : Str → Option Value) (base : Heap) (k : Nat) (x : Str) (ps : List Str) (F : Fn) : Prop :=
  ∃ f fd, mg x = some (.ref f) ∧ PySem.W.keepIn K (.ref f) = true ∧ Binds K fd ps [] ∧ FnG P w K mg base CX0 k f fd ps (spD K mg ps.length F) ∧ ∀ as f c v f2, F as f ≠ .ex c v f2
/-- its text as it stands behind the top -/
structure Src (K : PySem.W.Frag) (mg : Str → Option Value) (x qual : Str) (st : Stmt) (ps : List Str) : Prop where
  src : ∃ f fd, mg x = some (.ref f) ∧ Fun K qual qual st f fd ∧ Binds K fd ps []
theorem has_mk {P : Program} {w : World} {K : PySem.W.Frag} {mg : Str → Option Value} {base : Heap} {x qual : Str} {st : Stmt} {N ps : List Str} {k : Nat} {s : Sm} (T : Src K mg x qual st ps) (S : FnScope N ps (defScope st))
    (body : ∀ (f : Addr) (cdv : Value) (A : Around) (outer : List Env) (s0 : Shared) (H : Hp) (E : XK), A.guards = some [] → Room k (A.deeper (PyProof.Rows.envOfC qual (defScope st) s0.heap.objs.size f cdv)) →
      DSs (cxOf CX0 P w K mg base N qual (defScope st) f cdv A outer s0 H E).nox (fun _ _ _ => False) (defBody st) s) : Has P w K mg base (k + 1) x ps (dBody N.length s) := by
  obtain ⟨f, fd, hm, F, hb⟩ := T.src
  exact ⟨f, fd, hm, F.kp, hb, fnD F S fun X _ _ _ _ _ _ ⟨cdv, A, outer, s0, H, E, gd, room, e⟩ => e ▸ body f cdv A outer s0 H E gd room, dBody_noex _ _⟩
theorem de_has {X : Cx} {W : Wish} {k : Nat} {x : Str} {ps : List Str} {F : Fn} {p pos : Pos} {e : Expr} {es : List Expr} {xs : List Ex} (h : Has X.prog X.w X.K X.mg X.base k x ps F) (gd : X.A.guards = some []) (hr : Room k X.A) (hg : Gl X x)
    (ha : DA X W (e :: es) xs) (hn : xs.length = ps.length := by rfl) (hdb : (x == ("__debug__" : Str)) = false := by decide) (he : starEach (e :: es) X.env = (false, eval e X.env) :: starEach es X.env := by rfl) (hpl : (backTo pos (starEach es X.env)).any (·.1) = false := by rfl) :
    DE X W (.Call (.Name x p) (e :: es) [] pos) (cCall F xs) := by
  obtain ⟨f, fd, hm, hk, hb, G, hno⟩ := h
  exact de_call G gd hr hg hm hk hb ha hno hn hdb he hpl
end Dn
end
section
set_option maxHeartbeats 4000000
namespace Dn
open PySem PySem.Spec L2
theorem hu1 {n : Nat} (h : n + 64 < cLine) : n + 1 < cLine := by omega
theorem src_mk {K : PySem.W.Frag} {h : Heap} {mg : Str → Option Value} {x qual : Str} {st : Stmt} {ps : List Str} {f : Addr} {od an : Option Addr} {sl : Array (Option Value)} {oc kV dc pm cd ct : Value} (X : K.In h) (G : h.Ns mainGlobals mg)
    (a1 : PySem.W.nsIn K mainGlobals x = some (some (.ref f))) (l1 : K.lookup f = some ⟨oc, od, .func (PySem.W.fnOf qual qual (defArgs st) (defBody st) (defScope st) .none kV dc pm an cd ct), sl⟩) (c1 : PySem.W.codeIn K cd qual = true) (k1 : PySem.W.keepIn K (.ref f) = true)
    (hb : ∀ (kV doc pm : Value) (an : Option Addr) (cdv ct : Value) (us : List Value), us.length = ps.length → bindArgs (PySem.W.fnOf qual qual (defArgs st) (defBody st) (defScope st) .none kV doc pm an cdv ct) ⟨us, []⟩ = pure (ps.zip us)) : Src K mg x qual st ps :=
  ⟨⟨f, _, PySem.W.mg_of X G a1, fun_mk l1 c1 k1, (fun_mk l1 c1 k1).binds hb⟩⟩
theorem rat_mk {K : PySem.W.Frag} {h : Heap} {mg : Str → Option Value} {x : Str} {a : Addr} {od : Option Addr} {i j : Int} {t u : Tok} {n : Nat} {sl : Array (Option Value)} (X : K.In h) (G : h.Ns mainGlobals mg) (e : PySem.W.nsIn K mainGlobals x = some (some (.ref a))) (l : K.lookup a = some ⟨.type "tuple", od, .seq #[.int i t, .int j u] n, sl⟩) :
    ∃ a, mg x = some (.ref a) ∧ ∀ HF, DR K HF (.ref a) (.tuple [.int i, .int j]) := ⟨a, PySem.W.mg_of X G e, DR.ratK l⟩
theorem int_mk {K : PySem.W.Frag} {h : Heap} {mg : Str → Option Value} {x : Str} {i : Int} {t : Tok} (X : K.In h) (G : h.Ns mainGlobals mg) (e : PySem.W.nsIn K mainGlobals x = some (some (.int i t))) : ∃ t, mg x = some (.int i t) := ⟨t, PySem.W.mg_of X G e⟩
theorem txt_mk {K : PySem.W.Frag} {h : Heap} {mg : Str → Option Value} {x : Str} {i : Str} {t : Tok} (X : K.In h) (G : h.Ns mainGlobals mg) (e : PySem.W.nsIn K mainGlobals x = some (some (.str i t))) : ∃ t, mg x = some (.str i t) := ⟨t, PySem.W.mg_of X G e⟩
end Dn
end
section
set_option maxHeartbeats 4000000
namespace Dn
open PySem PySem.Spec L2
section
variable {X : Cx} {W : Wish} {a b : Expr} {fa fb : Ex} {pos : Pos}
end
def sPar3 (i j l : Nat) (a b c : Ex) : Sm := fun ρ f => (cArgs [a, b, c] ρ f).bind fun ds f1 => match ds with
  | [d, e, h] => .ok (.nx (((ρ.set i (.dat d)).set j (.dat e)).set l (.dat h))) f1
  | _ => .no
section
variable {X : Cx} {E : XK} {pos : Pos}
end
def downD (lo : Int) (n : Nat) : List PyData := (List.range n).map fun (k : Nat) => .int (lo + (k : Nat) * (-1))
def iDown (a b c : Ex) : Ix := fun ρ f => pk (a ρ f) fun d f1 => pk (b ρ f1) fun d2 f2 => pk (c ρ f2) fun d3 f3 => match d, d2, d3 with
  | .int i, .int j, .int k => if (smallI i && smallI j && decide (k = -1)) = true then .ok (downD i (i - j).toNat) f3 else .no
  | _, _, _ => .no
section
variable {X : Cx} {W : Wish} {tg : Expr} {p pos : Pos} {e e2 e3 : Expr} {x y z : Ex}
end
def popped (i : Nat) (ρ : Rho) : Option (PyData × Rho) := match ρ[i]? with
  | some (.own ds) => match ds[ds.length - 1]? with
    | some d => some (d, ρ.set i (.own ds.dropLast))
    | none => none
  | _ => none
def sPop (i : Nat) (T : Tgt) : Sm := fun ρ f => match popped i ρ with
  | some (d, ρ1) => match T.put d ρ1 with
    | some ρ2 => .ok (.nx ρ2) f
    | none => .no
  | none => .no
def sPopD (i : Nat) : Sm := fun ρ f => match popped i ρ with
  | some (_, ρ1) => .ok (.nx ρ1) f
  | none => .no
theorem DRs.dropLast {K : PySem.W.Frag} {H : Hp} {vs : List V} {ds : List PyData} (r : DRs K H vs ds) : DRs K H vs.dropLast ds.dropLast := by
  rw [List.dropLast_eq_take, List.dropLast_eq_take, r.length]
  exact r.take _
section
variable {X : Cx} {E : XK} {o : Expr} {i : Nat} {apos cpos pos : Pos}
end
theorem vals_ints : ∀ {ns : List Int} {us : List Value}, Vals (ns.map V.int) us → ∃ ps : List (Int × Tok), ps.map (·.1) = ns ∧ us = ps.map fun p => .int p.1 p.2
  | [], _, .nil => ⟨[], rfl, rfl⟩
  | n :: ns, _, .cons h t => by
    obtain ⟨ps, e1, e2⟩ := vals_ints t
    obtain ⟨tk, rfl⟩ := h
    exact ⟨(n, tk) :: ps, by rw [List.map_cons, e1], by rw [List.map_cons, e2]⟩
end Dn
end
section
set_option maxHeartbeats 4000000
namespace Dn
open PySem PySem.Spec L2
mutual
/-- no list in it -/
def flat : PyData → Bool
  | .list _ => false
  | .tuple ds => flatAll ds
  | .dict (_ :: _) => false
  | _ => true
def flatAll : List PyData → Bool
  | [] => true
  | d :: ds => flat d && flatAll ds
end
section
variable {K : PySem.W.Frag} {G G2 : Hp} {p : Addr}
end
def keepF : RV → Feed → R RV
  | .dat d, f => if flat d then .ok (.dat d) f else .no
  | .own ds, f => if flatAll ds then .ok (.own ds) f else .no
  | _, _ => .no
/-- a call: xs, then the growing list i -/
def cCallL (F : Fn) (xs : List Ex) (i : Nat) : Ex := fun ρ f => (cVals xs ρ f).bind fun as f1 => match ρ[i]? with
  | some (.own ds) => (F (as ++ [.dat (.list ds)]) f1).bind keepF
  | _ => .no
section
variable {K : PySem.W.Frag} {mg : Str → Option Value} {W : Wish}
end
section
variable {X : Cx} {W : Wish} {k : Nat} {f : Addr} {fd : FuncData} {ps : List Str} {F : Fn} {x : Str} {p pos : Pos} {e : Expr} {es : List Expr} {xs : List Ex} {i : Nat}
end
end Dn
end
section
set_option maxHeartbeats 4000000
namespace Dn
open PySem PySem.Spec L2
section
variable {X : Cx} {W : Wish} {a b : Expr} {fa fb : Ex} {pos : Pos}
end
end Dn
end
section
set_option maxHeartbeats 4000000
namespace Dn
open PySem PySem.Spec L2
section
variable {X : Cx} {e : Expr} {es : List Expr} {ta : TA} {p1 p2 pos : Pos}
theorem pe_finit {y : Str} {B : Addr} {pl : Sem Bool} (hg : Gl X y) (hm : X.mg y = some (.ref B)) (sg : PySem.W.specialIn X.K (.ref B) "__getattribute__" = some (some (.builtin "type.__getattribute__"))) (rd : PySem.W.readsIn X.K B (.type "type") = true)
    (vV : PySem.W.findCls X.K (.ref B) (.type "type") "__init__" = some (.val (.builtin "ValueError.__init__"))) (ha : PA X (e :: es) ta) (hdb : (y == ("__debug__" : Str)) = false := by decide)
    (hc : eval (.Call (.Attribute (.Name y p1) "__init__" p2) (e :: es) [] pos) X.env = (do
      let ov ← eval (.Name y p1) X.env
      standAt p2.atName
      let (f, first) ← holding [ov] (getMethod ov "__init__" pl)
      callWith pos f first (backTo pos (starEach (e :: es) X.env)) (backToKw pos (keywordEach [] X.env))) := by rfl)
    (he : starEach (e :: es) X.env = (false, eval e X.env) :: starEach es X.env := by rfl) (hpl : (backTo pos (starEach es X.env)).any (·.1) = false := by rfl) :
    PE X (.Call (.Attribute (.Name y p1) "__init__" p2) (e :: es) [] pos) (tVeI X.K ta) := by
  refine ⟨fun pins s σ H Q I h => ?_⟩
  refine PySem.W.methodCall_KW (ld_glob I hg hm ?_ hdb) hc
  refine PySem.W.method_cls I.kIn sg (PySem.W.cls_value I.kIn rd vV (by decide +kernel) ?_)
  show wpAny _ _ (callWith pos (Value.builtin "ValueError.__init__") [] (backTo pos (starEach (e :: es) X.env)) []) _ _ _
  refine PyProof.Rows.callWith_method1 (thn (ha.run pos pins _ σ H _ (I.tok _) h) fun us s1 ⟨vs, H1, I1, r1, a, C, ws, ev, hl, T, ea, q⟩ => ?_) he hpl
  subst ev
  cases r1 with
  | @cons _ u0 _ ur ra rw' =>
    obtain rfl : u0 = Value.ref a := ra
    have hlen : ur.length ≤ sizeLine := by
      rw [← Paired.length rw', sizeLine_eq]
      omega
    exact oinit_ok T I1 ea hlen fun s' J => ⟨.non, H1, J, rfl, q⟩
end
theorem at_ne' {H : Hp} {a b : Addr} {o u : HO} (ha : H a = some o) (hb : H b = some u) (d : o ≠ u) : b ≠ a := fun z => by
  rw [z, ha] at hb
  exact d (Option.some.inj hb)
section
variable {X : Cx} {pins : List (Addr × Obj)} {σ : St} {H1 H2 : Hp} {Q : XK} {hp hp2 h2 : Heap} {g1 g2 : Array GenState} {d1 d2 : Drawn} {t1 t2 : Nat} {os1 os2 : OsState} {a C : Addr}
theorem mk_endN (T : Raises X (.ref C)) (I1 : Inv X pins σ H1 ⟨hp, g1, d1, t1, os1⟩)
    (ha : hp.objs.size ≤ a) (k : ∀ b o, hp.get? b = some o → hp2.get? b = some o) (un : Un (frs X.stack) [] (upd H1 a (exo a C none)) H2 hp2 h2) (hok : HOk X.prog X.w H2 h2) (ho : os2 = os1) (hb : PyProof.Rows.AllBare g2)
    (ea : H2 a = some (exo a C none)) (q : Q (.ref C) none (del H2 a)) : MkP X pins σ Q (.ref a) ⟨h2, g2, d2, t2, os2⟩ := by
  obtain ⟨t0, hoe⟩ := exo_at hok ea
  have hn : H1 a = none := I1.hok.fresh ha
  obtain ⟨G, g1', g2'⟩ := restrict h2 fun b => decide (b ≠ a)
  have gk : ∀ b, b ≠ a → G.get? b = h2.get? b := fun b hb => g1' b (decide_eq_true hb)
  have ge : G.get? a = none := g2' a (by simp)
  have nha : ∀ {b : Addr} {o : Obj}, hp.get? b = some o → b ≠ a := fun {b o} z => Nat.ne_of_lt (Nat.lt_of_lt_of_le (Heap.lt_size z) ha)
  have up : ∀ {b : Addr}, b ≠ a → H1 b = none → upd H1 a (exo a C none) b = none := fun {b} hb n => by rw [upd_ne hb]; exact n
  have U : Un (frs X.stack) [] H1 (del H2 a) hp G := {
    keep := fun b o z n hf hx => by
      rw [gk b (nha z)]
      exact un.keep b o (k b o z) (up (nha z) n) hf hx
    slot := fun b o z n hf hx => by
      rw [gk b (nha z)]
      exact un.slot b o (k b o z) (up (nha z) n) hf hx
    free := fun b o z n hx => by
      rw [del_ne (nha z)]
      exact un.free b o (k b o z) (up (nha z) n) hx
    there := fun b o z hx => by
      rw [gk b (nha z)]
      exact un.there b o (k b o z) hx
    tups := fun b xs z => by
      rw [del_ne (ne_of_none z hn)]
      exact un.tups b xs (by rw [upd_ne (ne_of_none z hn)]; exact z)
    frzs := fun b o v z => by
      rw [del_ne (ne_of_none z hn)]
      exact un.frzs b o v (by rw [upd_ne (ne_of_none z hn)]; exact z)
    tbls := fun b ps z => by
      rw [del_ne (ne_of_none z hn)]
      exact un.tbls b ps (by rw [upd_ne (ne_of_none z hn)]; exact z) }
  have hok3 : HOk X.prog X.w (del H2 a) G := fun b o z => by
    have hba : b ≠ a := fun e => by
      rw [e, del_same] at z
      cases z
    rw [del_ne hba] at z
    have noa : ∀ {c : Addr}, H2 c = some (.own b) → c ≠ a := fun {c} hc => at_ne' ea hc exo_own
    exact (hok b o z).stay (fun c v hc y => by
        have hca : c ≠ a := by
          rcases hc with hc | hc
          · rw [hc]
            exact hba
          · exact noa hc
        rw [gk c hca]
        exact y)
      (fun c hc => by rw [del_ne (noa hc)]; exact hc) (fun c xs hc => by rw [del_ne (at_ne' ea hc exo_tup)]; exact hc)
  have J : Inv X pins σ (del H2 a) ⟨G, g2, d2, t2, os2⟩ := I1.call' (ch := []) ho U hok3 hb (fun b z => absurd z (by simp))
  refine ⟨a, _, _, ⟨G, g2, d2, t2, os2⟩, _, .ref C, none, rfl, J, fun b o z => ?_, ge, hoe, ⟨rfl, rfl⟩, rfl, rfl, del_same, rfl, hb, T, q⟩
  by_cases hba : b = a
  · rw [hba] at z
    rw [ge] at z
    cases z
  · exact (gk b hba).symm.trans z
end
/-- C(e, ..), C's own __init__ keeping sp, fields or none -/
def tMkE (C : Addr) (sp : Sp) (ta : TA) : St → Hp → XK → Prop := fun σ H Q => ta σ H fun vs H1 => vs.length ≤ 1000 ∧ ∀ a, H1 a = none → sp (.ref a :: vs) (upd H1 a (exo a C none))
  (fun v H2 => v = .non ∧ ((∃ (d : Addr) (fs : List (Str × V)), H2 a = some (exo a C (some d)) ∧ H2 d = some (exd d fs) ∧ H1 d = none ∧ Q (.ref C) (some d) (upd (del H2 a) d (.xd fs))) ∨ (H2 a = some (exo a C none) ∧ Q (.ref C) none (del H2 a)))) (fun _ _ _ => False)
section
variable {X : Cx} {x : Str} {e : Expr} {es : List Expr} {ta : TA} {p pos : Pos} {C fI : Addr} {k : Nat} {fd : FuncData} {ps : List Str} {sp : Sp}
theorem mk_goes {pins : List (Addr × Obj)} {σ : St} {H1 : Hp} {Q : XK} {s1 : Shared} {us : List Value} {vs : List V} (T : OexC X.K C) (iC : PySem.W.findIn X.K (.ref C) "__init__" = some (some (.ref fI))) (tI : PySem.W.typeIn X.K (.ref fI) = some (.type "function"))
    (F1 : FnOk X.prog X.w X.K X.mg X.base CX0 k fI fd ps sp) (hr : Room (k + 1) X.A) (hb : Binds X.K fd ps []) (I1 : Inv X pins σ H1 s1) (r1 : Vals vs us) (hz : vs.length ≤ 1000)
    (q1 : ∀ a, H1 a = none → sp (.ref a :: vs) (upd H1 a (exo a C none)) (fun v H2 => v = .non ∧ ((∃ (d : Addr) (fs : List (Str × V)), H2 a = some (exo a C (some d)) ∧ H2 d = some (exd d fs) ∧ H1 d = none ∧ Q (.ref C) (some d) (upd (del H2 a) d (.xd fs))) ∨ (H2 a = some (exo a C none) ∧ Q (.ref C) none (del H2 a)))) (fun _ _ _ => False)) :
    wpAny (model X.prog X.w) X.A (call (.ref C) us) (MkP X pins σ Q) X.xe s1 := by
  obtain ⟨nm, q, N, bs, bm, sn, sub, ab, col, dd, k0, k1, k2, k3, k5, hC, hbm⟩ := T.cls
  obtain ⟨hp, g, dr, tk, os⟩ := s1
  have hsz : hp.objs.size ≤ hp.objs.size + 1 := Nat.le_succ _
  have hn : H1 (hp.objs.size + 1) = none := I1.hok.fresh hsz
  have hq := q1 (hp.objs.size + 1) hn
  have kk : ∀ b o, hp.get? b = some o → ((hp.push (PySem.W.kdv_tup us)).push (PySem.HandSPX.excO C hp.objs.size)).get? b = some o := fun b o e => Heap.get?_push_of_some _ (Heap.get?_push_of_some _ e)
  have hget : ((hp.push (PySem.W.kdv_tup us)).push (PySem.HandSPX.excO C hp.objs.size)).get? (hp.objs.size + 1) = some (PySem.HandSPX.excO C hp.objs.size) := by heap_get
  have I2 : Inv X pins σ (upd H1 (hp.objs.size + 1) (exo (hp.objs.size + 1) C none)) ⟨(hp.push (PySem.W.kdv_tup us)).push (PySem.HandSPX.excO C hp.objs.size), g, dr, tk, os⟩ :=
    I1.laid (t' := tk) (a := hp.objs.size + 1) (o := exo (hp.objs.size + 1) C none) (h' := (hp.push (PySem.W.kdv_tup us)).push (PySem.HandSPX.excO C hp.objs.size)) kk hsz (exo_ok hget)
  have r2 : Vals (V.ref (hp.objs.size + 1) :: vs) (Value.ref (hp.objs.size + 1) :: us ++ []) := by
    rw [List.append_nil]
    exact .cons rfl r1
  have hl : (Value.ref (hp.objs.size + 1) :: us ++ []).length = ps.length := by
    have e := r2.length
    rw [F1.len _ _ _ _ hq] at e
    exact e.symm
  have hus : us.length ≤ sizeLine := by
    rw [← Paired.length r1, sizeLine_eq]
    omega
  refine wpAny_call (PySem.HandSPX.call_own F.excBase_ValueError (fun Y => PySem.HandSPX.refsVE_contains Y bm hbm) (I1.kIn _ _ hC) (PySem.W.looks_findIn I1.kIn iC) (fun self => PySem.W.bind_fn I1.kIn self tI) hus
    (codeAny_mono (F1.run _ X.stack _ _ ⟨Value.ref (hp.objs.size + 1) :: us, []⟩ (Value.ref (hp.objs.size + 1) :: us ++ []) _ _ (fun _ _ _ => False) (hr.make C us []) (I2.env0.make C us []) (hb _ (Value.ref (hp.objs.size + 1) :: us) I2.kIn hl) r2 hq) fun r s' hq' => ?_))
  cases r with
  | error er => exact (pass0 pins σ _ _ er s' I2 hq')
  | ok fl =>
    cases fl with
    | ret u =>
      obtain ⟨v, H2, os2, bare2, un2, hok2, rv, ev, q2⟩ := hq'
      subst ev
      obtain ⟨h2, g2, d2, t2, os'⟩ := s'
      rcases q2 with ⟨d, fs, ea, ed, hd1, q2⟩ | ⟨ea, q2⟩
      · exact ⟨rv, mk_end (raises_own T.exC T.tyC) I1 hsz kk un2 hok2 os2 bare2 ea ed hd1 q2⟩
      · exact ⟨rv, mk_endN (raises_own T.exC T.tyC) I1 hsz kk un2 hok2 os2 bare2 ea q2⟩
    | next => exact False.elim hq'
    | brk => exact False.elim hq'
    | cont => exact False.elim hq'
theorem pmk_e (T : OexC X.K C) (iC : PySem.W.findIn X.K (.ref C) "__init__" = some (some (.ref fI))) (tI : PySem.W.typeIn X.K (.ref fI) = some (.type "function"))
    (F1 : FnOk X.prog X.w X.K X.mg X.base CX0 k fI fd ps sp) (hr : Room (k + 1) X.A) (hb : Binds X.K fd ps []) (hg : Gl X x) (hm : X.mg x = some (.ref C)) (ha : PA X (e :: es) ta)
    (hdb : (x == ("__debug__" : Str)) = false := by decide) (he : starEach (e :: es) X.env = (false, eval e X.env) :: starEach es X.env := by rfl) (hpl : (backTo pos (starEach es X.env)).any (·.1) = false := by rfl) :
    PMk X (.Call (.Name x p) (e :: es) [] pos) (tMkE C sp ta) := by
  intro pins s σ H Q I h
  refine wpAny_Call_Name_kw (ld_glob I hg hm ?_ hdb)
  refine PySem.W.callWith_K (h₀ := X.base) I.ok.mod.kin T.kC (thn (ha.run pos pins s σ H _ I h) fun us s1 ⟨vs, H1, I1, r1, hz, q1⟩ => ⟨I1.kIn, ?_⟩) he hpl
  exact mk_goes T iC tI F1 hr hb I1 r1 hz q1
end
def spIni (K : PySem.W.Frag) (C : Addr) (fs : List Str) : Sp := fun vs H Q _ => ∃ a ws, vs = .ref a :: ws ∧ ws.length = fs.length ∧ OexC K C ∧ (∀ f ∈ fs, PySem.W.findIn K (.ref C) f = some none) ∧ H a = some (exo a C none) ∧
  (match fs with
  | [] => Q .non H
  | _ => ∀ d, H d = none → d ≠ a → Q .non (upd (upd H d (exd d (fs.zip ws).reverse)) a (exo a C (some d))))
def tI0 (K : PySem.W.Frag) (s : Str) : TS := tDrop (tVeI K (tCons (tVar 0) (tCons (tC (.str s)) tNil)))
def tI1 (K : PySem.W.Frag) (s f : Str) : TS := tSeq (tI0 K s) (tOst K f (tVar 0) (tVar 1))
section
variable {K : PySem.W.Frag} {C : Addr} {vs : List V} {H : Hp} {Q : VK} {E : XK} {s x y : Str}
theorem ini1 (h : spIni K C [x] vs H Q E) : tI1 K s x { nx := fun _ G => Q .non G, rt := Q } (L2.start ["self", x] vs) H := by
  obtain ⟨a, ws, rfl, hl, T, no, ha, q⟩ := h
  match ws, hl with
  | [v], _ => exact ⟨_, rfl, a, C, _, rfl, Nat.le_add_left 1 999, T, ha, v, rfl, _, rfl, a, C, rfl, T, no x (by simp), .inl ⟨ha, fun d hd hne => q d hd hne⟩⟩
end
/-- a class of errors as it stands behind the top: x its name, fs its fields -/
structure ErrI (P : Program) (w : World) (K : PySem.W.Frag) (mg : Str → Option Value) (base : Heap) (x : Str) (fs : List Str) : Prop where
  ex : ∃ C fI fd, mg x = some (.ref C) ∧ OexC K C ∧ (∀ f ∈ fs, PySem.W.findIn K (.ref C) f = some none) ∧ PySem.W.findIn K (.ref C) "__init__" = some (some (.ref fI)) ∧ PySem.W.typeIn K (.ref fI) = some (.type "function") ∧
    FnOk P w K mg base CX0 1 fI fd ("self" :: fs) (spIni K C fs) ∧ Binds K fd ("self" :: fs) []
def sRaise (x : Str) (fs : List Str) (xs : List Ex) : Sm := fun ρ f => (cArgs xs ρ f).bind fun ds f1 => if ds.length = fs.length ∧ fs.length ≤ 900 then .ex x (fs.zip ds).reverse f1 else .no
theorem lay_new {g : Gh} {H HF : Hp} {f : Feed} {p : Addr} {o : HO} (sub : Le HF H) (h : FeedAt g H HF f) (hp : H p = none) : Step g H HF (upd H p o) (upd HF p o) ∧ FeedAt g (upd H p o) (upd HF p o) f := by
  have hf : HF p = none := by
    cases z : HF p with
    | none => rfl
    | some o => rw [sub _ _ z] at hp; cases hp
  have l : Le HF (upd HF p o) := fun b o e => by
    rw [upd_ne (ne_of_none e hf)]
    exact e
  refine ⟨⟨fun b o _ e => ?_, l, fun b x y => ?_, fun b o e => ?_⟩, ⟨?_, ?_, ?_⟩⟩
  · rw [upd_ne (ne_of_none e hp)]
    exact e
  · rw [upd_ne (fun z => x.some (by rw [z]; exact hp))]
    exact y
  · by_cases z : b = p
    · subst z
      rw [upd_same] at e ⊢
      exact e
    · rw [upd_ne z] at e ⊢
      exact sub _ _ e
  · rw [upd_ne (ne_of_none h.d hp)]
    exact h.d
  · rw [upd_ne (ne_of_none h.d hp)]
    exact h.nf
  · exact l _ _ h.c
theorem map_zip1 : ∀ {fs : List Str} {α : Type} {vs : List α}, vs.length = fs.length → (fs.zip vs).map (·.1) = fs
  | [], _, _, _ => rfl
  | _ :: _, _, [], h => by cases h
  | f :: fs, _, v :: vs, h => by
    exact congrArg (f :: ·) (map_zip1 (by simpa using h))
theorem map_zip2 : ∀ {fs : List Str} {α : Type} {vs : List α}, vs.length = fs.length → (fs.zip vs).map (·.2) = vs
  | [], _, [], _ => rfl
  | [], _, _ :: _, h => by cases h
  | _ :: _, _, [], h => by cases h
  | f :: fs, _, v :: vs, h => by
    exact congrArg (v :: ·) (map_zip2 (by simpa using h))
section
variable {X : Cx} {E : XK} {x : Str} {fs : List Str} {e : Expr} {es : List Expr} {xs : List Ex} {p pos pos2 : Pos}
theorem raise_read {D : Ends} {σ : St} {H : Hp} {C : Addr} (hm : X.mg x = some (.ref C)) (T : OexC X.K C) (no : ∀ f ∈ fs, PySem.W.findIn X.K (.ref C) f = some none)
    (q : tDS X.K X.mg E (sRaise x fs xs) D σ H) : tMkE C (spIni X.K C fs) (argT X.K X.mg (fun _ => E) xs) σ H fun cls d H' => E cls d H' := by
  obtain ⟨g, HF, ρ, f, rel, q⟩ := q
  unfold sRaise at q
  refine args_read xs rel (rel.toE q) fun ds f1 vs G GF r1 s1 drs q1 => ?_
  by_cases c : ds.length = fs.length ∧ fs.length ≤ 900
  · rw [if_pos c] at q1
    have hl : vs.length = fs.length := drs.length.trans c.1
    refine ⟨by omega, fun a ha => ⟨a, vs, rfl, hl, T, no, upd_same, ?_⟩⟩
    have go : ∀ od G2 GF2, Step g G GF G2 GF2 → FeedAt g G2 GF2 f1 → Xd X.K G2 GF2 od (fs.zip ds).reverse → E (.ref C) od G2 := fun od G2 GF2 s2 h2 xd => q1 C od G2 GF2 hm s2 h2 xd
    match fs, hl with
    | [], hl =>
      obtain rfl : vs = [] := List.eq_nil_of_length_eq_zero hl
      refine ⟨rfl, .inr ⟨upd_same, ?_⟩⟩
      have e : del (upd G a (exo a C none)) a = G := by
        funext b
        by_cases z : b = a
        · rw [z, del_same, ha]
        · rw [del_ne z, upd_ne z]
      rw [e]
      exact go none G GF (Step.refl r1.sub) r1.feed ⟨[], .inl ⟨rfl, rfl⟩, by simp, by simpa using DRs.nil⟩
    | w :: ws, hl =>
      intro d hd hne
      have hd1 : G d = none := by rw [upd_ne hne] at hd; exact hd
      refine ⟨rfl, .inl ⟨d, _, upd_same, by rw [upd_ne hne, upd_same], hd1, ?_⟩⟩
      have e : upd (del (upd (upd (upd G a (exo a C none)) d (exd d ((w :: ws).zip vs).reverse)) a (exo a C (some d))) a) d (.xd ((w :: ws).zip vs).reverse) = upd G d (.xd ((w :: ws).zip vs).reverse) := by
        funext b
        by_cases z : b = d
        · rw [z, upd_same, upd_same]
        · rw [upd_ne z, upd_ne z]
          by_cases y : b = a
          · rw [y, del_same, ha]
          · rw [del_ne y, upd_ne y, upd_ne z, upd_ne y]
      rw [e]
      obtain ⟨s2, h2⟩ := lay_new (o := .xd ((w :: ws).zip vs).reverse) r1.sub r1.feed hd1
      refine go (some d) _ _ s2 h2 ⟨((w :: ws).zip vs).reverse, .inr ⟨d, rfl, upd_same⟩, ?_, ?_⟩
      · rw [List.map_reverse, List.map_reverse, map_zip1 hl, map_zip1 c.1]
      · rw [List.map_reverse, List.map_reverse, map_zip2 hl, map_zip2 c.1]
        exact (drs.mono s2.le).rev
  · rw [if_neg c] at q1
    exact (show False from q1).elim
theorem ds_raise (h : ErrI X.prog X.w X.K X.mg X.base x fs) (hc : X.calm = true) (tk : Takes X fun cls d _ H => E cls d H) (hr : Room 2 X.A) (hg : Gl X x) (ha : DA X (fun _ => E) (e :: es) xs)
    (hdb : (x == ("__debug__" : Str)) = false := by decide) (he : starEach (e :: es) X.env = (false, eval e X.env) :: starEach es X.env := by rfl) (hpl : (backTo pos (starEach es X.env)).any (·.1) = false := by rfl) :
    DS X E (.Raise (some (.Call (.Name x p) (e :: es) [] pos)) none pos2) (sRaise x fs xs) := by
  obtain ⟨C, fI, fd, hm, T, no, iC, tI, F, hb⟩ := h.ex
  exact ps_mono (ps_raise hc tk (pmk_e (k := 1) T iC tI F hr hb hg hm ha hdb he hpl)) fun D σ H q => raise_read hm T no q
end
section
variable {P : Program} {w : World} {K : PySem.W.Frag} {mg : Str → Option Value} {base : Heap}
theorem fnX_ok {x qual : Str} {st : Stmt} {f : Addr} {fd : FuncData} {N ps : List Str} {k : Nat} {sp : Sp} (F : Fun K x qual st f fd) (S : FnScope N ps (defScope st)) (size : ∀ vs H Q E, sp vs H Q E → vs.length = ps.length)
    (body : ∀ (cdv : Value) (A : Around) (outer : List Env) (s : Shared) (H : Hp) (vs : List V) (Q : VK) (E : XK), A.guards = some [] → Room k (A.deeper (PyProof.Rows.envOfC qual (defScope st) s.heap.objs.size f cdv)) → sp vs H Q E →
      ∃ t, PSs (cxOf (L2.CX P w) P w K mg base N qual (defScope st) f cdv A outer s H E) (defBody st) t ∧ t { nx := fun _ G => Q .non G, rt := Q } (L2.start N vs) H) : FnG P w K mg base (L2.CX P w) (k + 1) f fd ps sp := by
  obtain ⟨oc, od, kV, doc, pm, an, cdv, ct, osl, rfl, lk, hcd⟩ := F.ex
  refine ⟨size, fun A outer s H args us vs Q E gd room e0 bnd rel hsp => ?_⟩
  have KX : K.In s.heap := e0.mod.kin.keeps (fun b o e => (e0.bs b o e).1)
  have par : ∀ y ∈ ps.zip us, (defScope st).names.lookup y.1 = some .local ∨
      ((defScope st).names.lookup y.1 = some .cell ∧ ((cellsFrom (s.heap.objs.size + 1) (defScope st).names []).lookup y.1).isSome = true) := by
    intro y hy
    rcases S.par y.1 (List.of_mem_zip hy).1 with q | q
    · exact .inl q
    · exact .inr ⟨q, PySem.W.cellsFrom_some _ _ _ (.inl q)⟩
  refine codeAny_call_function room.depth (KX _ _ lk) rfl S.co S.gen rfl
    (PySem.W.codeRec_of KX hcd) (bnd _ _ _ _ ?_)
  refine wpAny_newFunctionEnv_cells S.kind par ?_
  intro env he s1 x
  subst he
  have lim : s.heap.NoLimit := e0.mod.nolimit.keeps (fun b o e => (e0.bs b o e).1)
  refine ⟨lim.keeps x.toInCall.keep, codeAny_func ?_⟩
  obtain ⟨t, ht, hq⟩ := body cdv A outer s H vs Q E gd (room.deeper _) hsp
  have J0 := inv_start (CX := L2.CX P w) (E := E) S room.hd e0 (size _ _ _ _ hsp) rel x
  refine wpAny_mono (ht.run [] s1 (L2.start N vs) H _ J0 hq) ?_ (fun e s' hs => hs)
  intro fl s' hs
  cases fl with
  | next =>
    obtain ⟨σ2, H2, J, q⟩ := hs
    exact ⟨.non, H2, J.os, J.bare, J.base, J.hok, rfl, q⟩
  | ret u =>
    obtain ⟨v, σ2, H2, J, rv, q⟩ := hs
    exact ⟨v, H2, J.os, J.bare, J.base, J.hok, rv, q⟩
  | brk =>
    obtain ⟨_, _, _, q⟩ := hs
    exact q.elim
  | cont =>
    obtain ⟨_, _, _, q⟩ := hs
    exact q.elim
end
def dEndX : R Ctl → R RV := fun r => r.bind fun c f1 => match c with
  | .nx _ => .ok (.dat .none) f1
  | .rt v => .ok v.up f1
  | _ => .no
def dBodyX (n : Nat) (s : Sm) : Fn := fun as f => dEndX (s (as.map fnSlot ++ List.replicate (n - as.length) .emp) f)
def HasX (P : Program) (w : World) (K : PySem.W.Frag) (mg : Str → Option Value) (base : Heap) (k : Nat) (x : Str) (ps : List Str) (F : Fn) : Prop :=
  ∃ f fd, mg x = some (.ref f) ∧ PySem.W.keepIn K (.ref f) = true ∧ Binds K fd ps [] ∧ FnG P w K mg base (L2.CX P w) k f fd ps (spD K mg ps.length F)
theorem has_mkX {P : Program} {w : World} {K : PySem.W.Frag} {mg : Str → Option Value} {base : Heap} {x qual : Str} {st : Stmt} {N ps : List Str} {k : Nat} {s : Sm} (T : Src K mg x qual st ps) (S : FnScope N ps (defScope st))
    (body : ∀ (f : Addr) (cdv : Value) (A : Around) (outer : List Env) (s0 : Shared) (H : Hp) (E : XK), A.guards = some [] → Room k (A.deeper (PyProof.Rows.envOfC qual (defScope st) s0.heap.objs.size f cdv)) →
      DSs (cxOf (L2.CX P w) P w K mg base N qual (defScope st) f cdv A outer s0 H E) E (defBody st) s) : HasX P w K mg base (k + 1) x ps (dBodyX N.length s) := by
  obtain ⟨f, fd, hm, F, hb⟩ := T.src
  refine ⟨f, fd, hm, F.kp, hb, fnX_ok F S (fun vs H Q E h => h.1) fun cdv A outer s0 H vs Q E gd room h => ?_⟩
  obtain ⟨hl, g, HF, as, fe, hG, hR⟩ := h
  refine ⟨_, body f cdv A outer s0 H E gd room, { g with H0 := H, HF0 := HF }, HF, _, fe, start_rel N hG, ?_⟩
  unfold dBodyX dEndX at hR
  cases z : s (as.map fnSlot ++ List.replicate (N.length - as.length) .emp) fe with
  | no =>
    rw [z] at hR
    exact (show False from hR).elim
  | ex c v f =>
    rw [z] at hR
    exact fun C od G GF q r xd => hR C od G GF q ⟨r.ext, r.le, r.new, r.sub⟩ ⟨r.feed.d, r.feed.nf, r.feed.c⟩ xd
  | ok c f1 =>
    rw [z] at hR
    cases c with
    | nx ρ => exact fun σ G GF r => (show Back K g H HF Q (.dat .none) f1 from hR) .non G GF ⟨r.ext, r.le, r.new, r.sub⟩ ⟨r.feed.d, r.feed.nf, r.feed.c⟩ .non
    | rt rv => exact fun v G GF r => (show Back K g H HF Q rv.up f1 from hR) v G GF ⟨r.ext, r.le, r.new, r.sub⟩ ⟨r.feed.d, r.feed.nf, r.feed.c⟩ (by
        have q := r.val
        cases hq : rv.up with
        | dat d =>
          rw [hq] at q
          exact q
        | own ds =>
          rw [hq] at q
          exact q
        | lent i ds => cases rv <;> cases hq
        | feed =>
          rw [hq] at q
          exact q)
    | bk ρ => exact (show False from hR).elim
    | ct ρ => exact (show False from hR).elim
section
variable {X : Cx} {k : Nat} {x : Str} {ps : List Str} {F : Fn} {p pos : Pos} {e : Expr} {es : List Expr} {xs : List Ex} {W : Wish}
theorem de_hasX (h : HasX X.prog X.w X.K X.mg X.base k x ps F) (tk : Takes X fun cls d σ H => W σ cls d H) (gd : X.A.guards = some []) (hr : Room k X.A) (hg : Gl X x)
    (ha : DA X W (e :: es) xs) (hn : xs.length = ps.length := by rfl) (hdb : (x == ("__debug__" : Str)) = false := by decide) (he : starEach (e :: es) X.env = (false, eval e X.env) :: starEach es X.env := by rfl) (hpl : (backTo pos (starEach es X.env)).any (·.1) = false := by rfl) :
    DE X W (.Call (.Name x p) (e :: es) [] pos) (cCall F xs) := by
  obtain ⟨f, fd, hm, hk, hb, G⟩ := h
  refine pe_mono (t := fun σ H Q => argT X.K X.mg W xs σ H fun vs I => spD X.K X.mg ps.length F vs I Q (W σ)) ⟨fun pins s σ H Q I h => wpAny_Call_Name_kw (ld_glob I hg hm ?_ hdb)⟩ ?_
  · refine PySem.W.callWith_K (h₀ := X.base) I.ok.mod.kin hk (thn (ha.run pos pins s σ H _ I h) ?_) he hpl
    rintro us s1 ⟨vs, H1, I1, r, q⟩
    refine ⟨I1.kIn, ?_⟩
    have hl : (us ++ []).length = ps.length := by
      rw [List.append_nil, ← r.length]
      exact G.size _ _ _ _ q
    have hb2 := hb s1 us I1.kIn hl
    rw [List.append_nil] at hb2
    refine wpAny_call (codeAny_mono (G.go X.A X.stack s1 H1 ⟨us, []⟩ us vs Q (W σ) gd hr I1.env0 hb2 r q) ?_)
    intro res s' hq
    cases res with
    | error e => exact tk e s' (XE.of_call I1 (fun _ _ _ h => h) hq)
    | ok fl =>
      cases fl with
      | ret u => exact I1.after hq
      | next => exact hq.elim
      | brk => exact hq.elim
      | cont => exact hq.elim
  · intro σ H Q ⟨g, HF, ρ, fe, rel, q⟩
    refine vals_read xs rel q fun as f1 vs I IF hl r1 s1 drs q1 => ⟨hl.trans hn, g, IF, as, f1, ⟨r1.sub, r1.feed, drs⟩, ?_⟩
    exact ROk.mono q1 fun rv f2 q2 v J JF s2 h2 rr => (show Fin X.K g σ H HF Q rv f2 from q2) v J JF (s1.trans r1.feed s2) h2 (rr.any.back r1.feed s1)
end
end Dn
end
section
set_option maxHeartbeats 4000000
namespace Dn
open PySem PySem.Spec L2
def sTryS0 (i : Nat) (x : Ex) (names : List Str) (su : Sm) : Sm := fun ρ f => match x ρ f with
  | .no => .no
  | .ok rv f1 => match slotOf rv with
    | some s => .ok (.nx (ρ.set i s)) f1
    | none => .no
  | .ex c _ f1 => if names.contains c then noEx (su ρ f1) else .no
section
variable {K : PySem.W.Frag} {mg : Str → Option Value} {g : Gh} {E E2 : XK}
end
section
variable {X : Cx} {E : XK} {n y : Str} {e : Expr} {pn2 pos pos' pos2 np : Pos} {b₀ : Stmt} {suite : List Stmt} {x : Ex} {i : Nat} {su : Sm} {cv : Value} {names : List Str}
end
def excD (c : Str) (vs : List (Str × PyData)) : PyData := .dict ((.none, .str c) :: vs.map fun p => (.str p.1, p.2))
theorem fld_map : ∀ {xs : List (Str × V)} {vs : List (Str × PyData)}, xs.map (·.1) = vs.map (·.1) → fldD xs (vs.map (·.2)) = vs.map fun p => (.str p.1, p.2)
  | [], [], _ => rfl
  | [], _ :: _, h => by cases h
  | _ :: _, [], h => by cases h
  | x :: xs, v :: vs, h => by
    have h1 : x.1 = v.1 ∧ xs.map (·.1) = vs.map (·.1) := by simpa using h
    show (PyData.str x.1, v.2) :: fldD xs (vs.map (·.2)) = (PyData.str v.1, v.2) :: _
    rw [fld_map h1.2, h1.1]
/-- the name goes -/
def drp (j : Nat) (r : R Ctl) : R Ctl := r.bind fun c f => match c with
  | .nx ρ => .ok (.nx (ρ.set j .emp)) f
  | .bk ρ => .ok (.bk (ρ.set j .emp)) f
  | .ct ρ => .ok (.ct (ρ.set j .emp)) f
  | .rt v => .ok (.rt v) f
def caught (j : Nat) (names : List Str) (su : Sm) (c : Str) (vs : List (Str × PyData)) (ρ : Rho) (f : Feed) : R Ctl :=
  if names.contains c then drp j (noEx (su (ρ.set j (.dat (excD c vs))) f)) else .no
def sTryS (i j : Nat) (x : Ex) (names : List Str) (su : Sm) : Sm := fun ρ f => match x ρ f with
  | .no => .no
  | .ok rv f1 => match slotOf rv with
    | some s => .ok (.nx (ρ.set i s)) f1
    | none => .no
  | .ex c vs f1 => caught j names su c vs ρ f1
def sTryR (j : Nat) (x : Ex) (names : List Str) (su : Sm) : Sm := fun ρ f => match x ρ f with
  | .no => .no
  | .ok rv f1 => .ok (.rt rv) f1
  | .ex c vs f1 => caught j names su c vs ρ f1
section
variable {X : Cx} {pins : List (Addr × Obj)} {σ : St} {H : Hp} {sI s s' : Shared} {B : Heap}
/-- back on the ground, the error's object tracked -/
theorem landedT {a C : Addr} {d : Option Addr} (I : Inv X pins σ H sI) (nb : ∀ b o, sI.heap.get? b = some o → b ∉ frs X.stack → B.get? b = some o) (st : B.StaysIn s'.heap) (up : sI.heap.UpToSlots s'.heap) (os : s'.os = sI.os) (ag : PyProof.Rows.AllBare s'.gens)
    (na : H a = none) (gone : sI.heap.get? a = none) (ha : ∃ oe vs, s'.heap.get? a = some oe ∧ Zc (.ref C) d oe ∧ oe.data = .fields vs) : Inv X pins σ (upd H a (ExH a C d)) s' := by
  have nf : ∀ b ∈ frs X.stack, ∀ o, sI.heap.get? b = some o → ∃ sl, s'.heap.get? b = some { o with slots := sl } := fun b hb o e => by
    obtain ⟨_, o', e', hd⟩ := I.stack.mem hb
    rw [e] at e'; cases e'
    exact up b o e hd
  have hok : HOk X.prog X.w (upd H a (ExH a C d)) s'.heap := by
    have h1 : HOk X.prog X.w H s'.heap := (I.inGround nb).kept st
    intro b u e
    by_cases hb : b = a
    · subst hb
      rw [upd_same] at e
      cases e
      obtain ⟨oe, vs, e1, e2, e3⟩ := ha
      exact ⟨⟨oe, vs, e1, e2, e3⟩, ⟨oe, e1⟩, fun h1 h2 ⟨o, v, q1, q2, q3⟩ k => ⟨o, v, k o q1, q2, q3⟩⟩
    · rw [upd_ne hb] at e
      exact (h1 b u e).stay (fun c v _ q => q) (fun c q => by rw [upd_ne (ne_of_none q na)]; exact q) fun c xs q => by rw [upd_ne (ne_of_none q na)]; exact q
  have J := I.call (ch := []) (h' := s'.heap) (g' := s'.gens) (t' := s'.toks) (d' := s'.drawn) (H' := upd H a (ExH a C d))
    ⟨fun b o e _ hb _ => st b o (nb b o e hb), fun b o e _ hb _ => nf b hb o e, fun b o e n _ => by
      rw [upd_ne (fun z => by rw [z, gone] at e; cases e)]
      exact n, fun b o e _ => by
      by_cases hb : b ∈ frs X.stack
      · obtain ⟨sl, q⟩ := nf b hb o e
        exact ⟨_, q⟩
      · exact ⟨o, st b o (nb b o e hb)⟩, fun b xs e => by rw [upd_ne (ne_of_none e na)]; exact e, fun b o u e => by rw [upd_ne (ne_of_none e na)]; exact e, fun b ps e => ⟨#[], by rw [upd_ne (ne_of_none e na), e]; simp⟩⟩
    hok ag (fun _ z => nomatch z)
  obtain ⟨a1, a2, a3, a4, a5⟩ := s'
  have e5 : a5 = sI.os := os
  subst e5
  exact J
theorem suiteT (I : Inv X pins σ H s) (a : Addr) : Inv (X.suite a (X.pn ++ pins)) [] σ H s :=
  ⟨I.ok.suite _ _, I.os, I.bare, I.base, I.loc, I.cell, I.free, I.freeC, fun p hp => by
    rw [List.append_nil] at hp
    exact I.pin p hp, I.hok, I.len⟩
theorem unsuiteT {a : Addr} {pn' : List (Addr × Obj)} (I : Inv (X.suite a (X.pn ++ pins)) pn' σ H s) (ok : X.Ok) : Inv X pins σ H s :=
  ⟨ok, I.os, I.bare, I.base, I.loc, I.cell, I.free, I.freeC, fun p hp => I.pin p (List.mem_append_left _ hp), I.hok, I.len⟩
end
/-- what the clause wishes of an exception of the body; every one is caught -/
def wT (K : PySem.W.Frag) (c : Value) (i : Nat) (ts : TS) (D : Ends) : WX := fun cls d σ H =>
  ∃ C, cls = .ref C ∧ PySem.W.exmOne K (.ref C) c = some true ∧ ∀ a, H a = none → ts { nx := fun σ' H' => D.nx (σ'.set i none) H', rt := D.rt, bk := fun σ' H' => D.bk (σ'.set i none) H', ct := fun σ' H' => D.ct (σ'.set i none) H' } (σ.set i (some (.ref a))) (upd H a (ExH a C d))
section
variable {X : Cx} {x n : Str} {c : Value} {i : Nat} {body suite : List Stmt} {b₀ : Stmt} {np pos pos' : Pos} {tb : WX → TS} {ts : TS}
theorem ps_tryT (hs : X.stack = X.env :: X.outer) (hf : X.env.frame = some X.env.locals) (hN : X.N.Nodup) (hi : X.N[i]? = some n) (hln : X.env.kindOf n = some .local) (hc : Names X x c)
    (hb : ∀ (W : WX) (pn : List (Addr × Obj)) (xe : Value → Shared → Prop), Takes (X.tr pn xe) W → PassesOwn (model X.prog X.w) X.A X.env xe → PSs (X.tr pn xe) body (tb W))
    (hsu : ∀ (a : Addr) (pn : List (Addr × Obj)), PSs (X.suite a pn) (b₀ :: suite) ts) :
    PS X (.Try body [.ExceptHandler (some (.Name x np)) (some n) (b₀ :: suite) pos'] [] [] pos) (fun D σ H => tb (wT X.K c i ts D) D σ H) := by
  refine ⟨fun pins s σ H D I h => ?_⟩
  have ok := I.ok
  have hfr : X.A.frames = some (X.env :: X.outer) := by rw [ok.frames, hs]
  have hloc : Loc X.env.scope n := .inl hln
  refine wpAny_Try_except ?_
  refine wpAny_mono ((hb (wT X.K c i ts D) (X.pn ++ pins) (fun e s₁ => wpAny (model X.prog X.w) X.A (noteFrame e X.env) (fun _ s₂ => wpAny (model X.prog X.w) X.A (setFlight e none) (fun _ s₃ =>
    wpAny (model X.prog X.w) X.A (handleBy e X.env [.ExceptHandler (some (.Name x np)) (some n) (b₀ :: suite) pos']) (SP X pins D) X.xe s₃) X.xe s₂) X.xe s₁) (fun u s' xx => ?_) PassesOwn.looking).run [] s σ H D (I.toTry _) h) (fun f s1 hsp => ?_) (fun e s1 he => he)
  · -- the catch
    obtain ⟨a, B, sI, pins', σ', H', cls, d, rfl, J', nb, up, sky, na, os, ag, C, rfl, hb1, hyes⟩ := xx
    have J : Inv X pins σ' H' sI := J'.ofTry ok
    have sky' : Sky B (X.env :: X.outer) a (Zc (.ref C) d) X.env.locals s'.heap := by rw [← hs]; exact sky
    show wpAny (model X.prog X.w) X.A (noteFrame (.ref a) X.env) _ _ _
    refine Sky.land Zc.steady hfr hf sky' fun h3 fl3 up3 => ?_
    have J3 : Inv X pins σ' H' { s' with heap := h3 } := J.landed nb fl3.1 (up.trans up3) os ag
    obtain ⟨oe3, vs3, he3, hz3, hd3⟩ := fl3.there
    have notFr : ∀ {h : Heap} {o : Obj} {vs : Array Value}, h.FunFrames B (X.env :: X.outer) → h.get? a = some o → o.data = .fields vs → a ∉ frs (X.env :: X.outer) := fun {h o vs} ff e dd hm => by
      obtain ⟨_, o', e', hnf⟩ := ff.mem hm
      rw [e] at e'; cases e'
      exact hnf _ dd
    have nfr := notFr fl3.2.2.1 he3 hd3
    have nL : a ≠ X.env.locals := fun z => nfr (List.mem_filterMap.mpr ⟨X.env, List.mem_cons_self, by rw [hf, z]⟩)
    have nF : a ∉ X.fs := fun hm => by
      obtain ⟨e, he, q⟩ := List.mem_filterMap.mp hm
      exact nfr (List.mem_filterMap.mpr ⟨e, List.mem_cons_of_mem _ he, q⟩)
    have gone : sI.heap.get? a = none := by
      cases z : sI.heap.get? a with
      | none => rfl
      | some o =>
        have z2 := nb a o z (by rw [hs]; exact nfr)
        rw [fl3.2.1] at z2
        cases z2
    have S3 := J3.suite he3 hd3 na nL nF
    refine wpAny_handleBy_cons (codeAny_handlers_test ?_) (by intro q; cases q)
    have LT : PySem.W.Looks (model X.prog X.w) h3 (typeOf (.ref a)) (.ref C) := fun A Q E s k q => wpAny_typeOf_ref (k _ _ he3) (by rw [hz3.1]; exact q)
    have LM := PySem.W.exm_one (M := model X.prog X.w) (J3.kIn) LT hb1
    have test : ∀ {Q : Value → Shared → Prop} {E : Value → Shared → Prop}, Q c { s' with heap := h3 } → wpAny (model X.prog X.w) (X.A.mark (some (.ref a))) (eval (.Name x np) X.env) Q E { s' with heap := h3 } := fun {Q E} q => by
      obtain ⟨hg, hdbg, hm | ⟨hm, hv, hnn⟩⟩ := hc
      · exact ld_glob (X := X.suite a ((a, oe3) :: (X.pn ++ pins))) S3 hg hm q hdbg
      · exact ld_blt (X := X.suite a ((a, oe3) :: (X.pn ++ pins))) S3 hg hm hv q hnn hdbg
    refine test (LM.here ?_)
    refine codeAny_handlers_suite_as ?_
    refine HandSPX.lands_againZ fl3 fun h4 fl4 up4 => ?_
    obtain ⟨oe4, vs4, he4, hz4, hd4⟩ := fl4.there
    have J4 : Inv X pins σ' (upd H' a (ExH a C d)) { s' with heap := h4 } := landedT J nb fl4.1 ((up.trans up3).trans up4) os ag na gone ⟨oe4, vs4, he4, hz4, hd4⟩
    have S4 := suiteT J4 a
    refine store_ok (X := X.suite a (X.pn ++ pins)) (v := .ref a) S4 hN hi hloc rfl (fun s5 S5 => ?_) (.inr hln)
    refine wpAny_mono ((hsu a (X.pn ++ pins)).run [] s5 _ _ _ S5 (hyes a na)) (fun f s6 hsp => ?_) (fun _ _ z => False.elim z)
    have end_ : ∀ {σ6 : St} {H6 : Hp} {Q : Shared → Prop}, Inv (X.suite a (X.pn ++ pins)) [] σ6 H6 s6 → (∀ s7, Inv X pins (σ6.set i none) H6 s7 → Q s7) →
        wpAny (model X.prog X.w) X.A (do bindName X.env n .none; unbindBehindTheSuite X.env n pos') (fun _ s7 => Q s7) X.xe s6 := fun {σ6 H6 Q} S6 hq => gone_ok (unsuiteT S6 ok) hN hi hln hq
    cases f with
    | next =>
      obtain ⟨σ6, H6, S6, q6⟩ := hsp
      exact end_ S6 fun s7 J7 => ⟨_, _, J7, q6⟩
    | brk =>
      obtain ⟨σ6, H6, S6, q6⟩ := hsp
      exact end_ S6 fun s7 J7 => ⟨_, _, J7, q6⟩
    | cont =>
      obtain ⟨σ6, H6, S6, q6⟩ := hsp
      exact end_ S6 fun s7 J7 => ⟨_, _, J7, q6⟩
    | ret u =>
      obtain ⟨v6, σ6, H6, S6, r6, q6⟩ := hsp
      exact end_ S6 fun s7 J7 => ⟨_, _, _, J7, r6, q6⟩
  · cases f with
    | next =>
      obtain ⟨σ', H', J', q⟩ := hsp
      exact wpAny_execs_nil ⟨σ', H', J'.ofTry ok, q⟩
    | brk =>
      obtain ⟨σ', H', J', q⟩ := hsp
      exact ⟨σ', H', J'.ofTry ok, q⟩
    | cont =>
      obtain ⟨σ', H', J', q⟩ := hsp
      exact ⟨σ', H', J'.ofTry ok, q⟩
    | ret u =>
      obtain ⟨v, σ', H', J', r, q⟩ := hsp
      exact ⟨v, σ', H', J'.ofTry ok, r, q⟩
end
end Dn
end
section
set_option maxHeartbeats 4000000
namespace Dn
open PySem PySem.Spec L2
def errNames : List Str := ["NoRatio", "NoAge", "NoBeat", "NoPaper", "TooMany", "NoText", "NoLines", "NoName", "NoRow", "FreshError"]
def errFields : List Str := ["age", "beat", "word", "place", "at", "row", "name"]
def exSub (c t : Str) : Bool := t == "ValueError" || t == "FreshError" || c == t
def excOk (K : PySem.W.Frag) (C : Addr) : Bool := decide (PySem.W.findIn K (.ref C) "__getattribute__" = some (some (.builtin "BaseException.__getattribute__"))) && decide (PySem.W.findIn K (.ref C) "__getattr__" = some none) &&
  decide (PySem.W.subIn K (.ref C) (.type "BaseException") = some true) && PySem.W.hasDictIn K C && decide (PySem.W.findIn K (.ref C) "__class__" = some (some (.builtin "object.__class__"))) && decide (PySem.W.mroIn K C (.type "object") = some true) &&
  decide (PySem.W.typeIn K (.ref C) = some (.type "type")) && errFields.all fun f => decide (PySem.W.findIn K (.ref C) f = some none)
def excAll (K : PySem.W.Frag) : Bool := decide (PySem.W.specialIn K (.builtin "object.__class__") "__get__" = some (some (.builtin "getset_descriptor.__get__"))) && decide (PySem.W.takesIn K (.builtin "object.__class__") = some true) &&
  K.all fun p => match errNm K p.1 with
    | some c => !(errNames.contains c) || excOk K p.1
    | none => true
def isAll (K : PySem.W.Frag) (t : Str) (cv : Value) : Bool := K.all fun p => match errNm K p.1 with
    | some c => !(errNames.contains c) || (decide (PySem.W.kitOne K (.ref p.1) cv = some (exSub c t)) && decide (PySem.W.exmOne K (.ref p.1) cv = some (exSub c t)))
    | none => true
/-- what is asked of a class by its name -/
structure ErrT (K : PySem.W.Frag) (mg : Str → Option Value) (t : Str) (cv : Value) : Prop where
  nm : mg t = some cv ∨ (mg t = none ∧ bootBuiltins t = some cv ∧ t ≠ "__name__")
  all : isAll K t cv = true
theorem errNm_mem {K : PySem.W.Frag} {C : Addr} {c : Str} (h : errNm K C = some c) : ∃ o, (C, o) ∈ K := by
  unfold errNm at h
  cases z : K.lookup C with
  | none =>
    unfold PySem.W.clsIn at h
    rw [z] at h
    cases h
  | some o =>
    refine ⟨o, ?_⟩
    clear h
    induction K with
    | nil => cases z
    | cons p K ih =>
      obtain ⟨b, u⟩ := p
      by_cases e : C = b
      · subst e
        simp [List.lookup] at z
        subst z
        exact List.mem_cons_self
      · have e2 : (C == b) = false := by simpa using e
        simp only [List.lookup, e2] at z
        exact List.mem_cons_of_mem _ (ih z)
theorem excAll_of {K : PySem.W.Frag} {C : Addr} {c : Str} (h : excAll K = true) (e : errNm K C = some c) (hc : errNames.contains c = true) : excOk K C = true := by
  obtain ⟨o, m⟩ := errNm_mem e
  unfold excAll at h
  have h2 := List.all_eq_true.mp (Bool.and_eq_true_iff.mp h).2 _ m
  simp only [e, hc, Bool.not_true, Bool.false_or] at h2
  exact h2
theorem isAll_of {K : PySem.W.Frag} {C : Addr} {c t : Str} {cv : Value} (h : isAll K t cv = true) (e : errNm K C = some c) (hc : errNames.contains c = true) : PySem.W.kitOne K (.ref C) cv = some (exSub c t) ∧ PySem.W.exmOne K (.ref C) cv = some (exSub c t) := by
  obtain ⟨o, m⟩ := errNm_mem e
  unfold isAll at h
  have h2 := List.all_eq_true.mp h _ m
  simp only [e, hc, Bool.not_true, Bool.false_or, Bool.and_eq_true, decide_eq_true_eq] at h2
  exact h2
theorem excOk_of {K : PySem.W.Frag} {C : Addr} (h : excOk K C = true) : PySem.W.findIn K (.ref C) "__getattribute__" = some (some (.builtin "BaseException.__getattribute__")) ∧ PySem.W.findIn K (.ref C) "__getattr__" = some none ∧ PySem.W.subIn K (.ref C) (.type "BaseException") = some true ∧
    PySem.W.hasDictIn K C = true ∧ PySem.W.findIn K (.ref C) "__class__" = some (some (.builtin "object.__class__")) ∧ PySem.W.mroIn K C (.type "object") = some true ∧ ∀ f ∈ errFields, PySem.W.findIn K (.ref C) f = some none := by
  unfold excOk at h
  simp only [Bool.and_eq_true, decide_eq_true_eq, List.all_eq_true] at h
  exact ⟨h.1.1.1.1.1.1.1, h.1.1.1.1.1.1.2, h.1.1.1.1.1.2, h.1.1.1.1.2, h.1.1.1.2, h.1.1.2, h.2⟩
theorem excAll_g {K : PySem.W.Frag} (h : excAll K = true) : PySem.W.specialIn K (.builtin "object.__class__") "__get__" = some (some (.builtin "getset_descriptor.__get__")) ∧ PySem.W.takesIn K (.builtin "object.__class__") = some true := by
  unfold excAll at h
  have h1 := (Bool.and_eq_true_iff.mp h).1
  simpa only [Bool.and_eq_true, decide_eq_true_eq] using h1
theorem errNm_cls {K : PySem.W.Frag} {C : Addr} {c : Str} (h : errNm K C = some c) : (PySem.W.clsIn K C).isSome = true := by
  unfold errNm at h
  cases z : PySem.W.clsIn K C with
  | none => rw [z] at h; cases h
  | some o => rfl
section
variable {X : Cx} {pins : List (Addr × Obj)} {σ : St} {H : Hp} {s : Shared} {a C : Addr} {od : Option Addr} {xs : List (Str × V)} {c : Str}
/-- the instance as the library looks at it -/
theorem inst_at (I : Inv X pins σ H s) (ha : H a = some (ExH a C od)) (hx : XdH H od xs) : ∃ (ox : Obj) (oo : Option Obj), PySem.W.InstAt s.heap a ox C oo := by
  have h1 : ObjOk X.prog X.w H s.heap a (.ext fun h => ∃ oe vs, h.get? a = some oe ∧ Zc (.ref C) od oe ∧ oe.data = .fields vs) := I.hok a _ ha
  obtain ⟨⟨oe, vs, e1, e2, e3⟩, _, _⟩ := h1
  have hn : PySem.W.notCls oe = true := by unfold PySem.W.notCls; rw [e3] <;> rfl
  rcases hx with ⟨rfl, _⟩ | ⟨d, rfl, hd⟩
  · exact ⟨oe, none, e1, e2.1, hn, by rw [e2.2]; trivial⟩
  · have h2 : ObjOk X.prog X.w H s.heap d (.xd xs) := I.hok d _ hd
    obtain ⟨mA, hns, hr⟩ := h2
    obtain ⟨oD, ho, _⟩ := lookIn_ns hns
    exact ⟨oe, some oD, e1, e2.1, hn, by rw [e2.2]; exact ho⟩
end
/-- isinstance(e, c) -/
def rIsX (K : PySem.W.Frag) : List V → Hp → VK → Prop := fun xs H Q => ∃ (a C : Addr) (od : Option Addr) (fs : List (Str × V)) (c : Str) (cl : V) (cv : Value) (b : Bool), xs = [.ref a, cl] ∧ H a = some (ExH a C od) ∧ XdH H od fs ∧ excAll K = true ∧ errNm K C = some c ∧ errNames.contains c = true ∧
  (∀ u, RelV cl u → u = cv) ∧ PySem.W.kitOne K (.ref C) cv = some b ∧ Q (.bl b) H
theorem call_isX {X : Cx} : CallR X (.builtin "isinstance") (rIsX X.K) := by
  intro pins s σ H xs us Q I r h
  obtain ⟨a, C, od, fs, c, cl, cv, b, rfl, ha, hx, al, en, hc, hcv, e, q⟩ := h
  obtain ⟨u1, u2, rfl, r1, r2⟩ := vals2 r
  cases (show u1 = Value.ref a from r1)
  obtain rfl := hcv _ r2
  obtain ⟨h1, h2, h3, h4, h5, h6, h7⟩ := excOk_of (excAll_of al en hc)
  obtain ⟨g1, g2⟩ := excAll_g al
  obtain ⟨ox, oo, J⟩ := inst_at I ha hx
  exact PySem.W.kia_one (PySem.W.kitx_exc (errNm_cls en) h1 h2 h3 h5 g1 g2 h6) I.kIn J e (fun z => nomatch z) fun tk => ⟨.bl b, H, I.tok tk, rfl, q⟩
/-- isinstance(e, (c, d, ..)), classes of the program -/
def rIsXT (K : PySem.W.Frag) : List V → Hp → VK → Prop := fun xs H Q => ∃ (a C tp : Addr) (od : Option Addr) (fs : List (Str × V)) (c : Str) (Cs : List Addr) (b : Bool), xs = [.ref a, .ref tp] ∧ H a = some (ExH a C od) ∧ XdH H od fs ∧ excAll K = true ∧ errNm K C = some c ∧ errNames.contains c = true ∧
  H tp = some (.tup (Cs.map V.ref)) ∧ PySem.W.kitAny K (.ref C) (Cs.map Value.ref) = some b ∧ Q (.bl b) H
theorem vals_refs : ∀ {Cs : List Addr} {us : List Value}, Vals (Cs.map V.ref) us → us = Cs.map Value.ref
  | [], _, .nil => rfl
  | C :: Cs, _, .cons r rs => by
    rw [vals_refs rs, show _ = Value.ref C from r]
    rfl
theorem call_isXT {X : Cx} : CallR X (.builtin "isinstance") (rIsXT X.K) := by
  intro pins s σ H xs us Q I r h
  obtain ⟨a, C, tp, od, fs, c, Cs, b, rfl, ha, hx, al, en, hc, ht, e, q⟩ := h
  obtain ⟨u1, u2, rfl, r1, r2⟩ := vals2 r
  cases (show u1 = Value.ref a from r1)
  cases (show u2 = Value.ref tp from r2)
  obtain ⟨h1, h2, h3, h4, h5, h6, h7⟩ := excOk_of (excAll_of al en hc)
  obtain ⟨g1, g2⟩ := excAll_g al
  obtain ⟨ox, oo, J⟩ := inst_at I ha hx
  obtain ⟨_, its, rv, o, p1, p2, n, p3⟩ := (show ObjOk X.prog X.w H s.heap tp (.tup (Cs.map V.ref)) from I.hok tp _ ht)
  have e3 := vals_refs rv
  subst e3
  obtain ⟨oc, od, dt, sl⟩ := o
  simp only at p2 p3
  subst p2 p3
  exact PySem.W.kia_tup (PySem.W.kitx_exc (errNm_cls en) h1 h2 h3 h5 g1 g2 h6) I.kIn J p1 e (fun z => nomatch z) fun tk => ⟨.bl b, H, I.tok tk, rfl, q⟩
def excNm : PyData → Option Str
  | .dict ((.none, .str c) :: _) => if errNames.contains c then some c else none
  | _ => none
def oIsE (t : Str) : Op1 := fun d => (excNm d).map fun c => .dat (.bool (exSub c t))
def oIsEs (ts : List Str) : Op1 := fun d => (excNm d).map fun c => .dat (.bool (ts.any (exSub c)))
def fldGet (k : Str) : List (PyData × PyData) → Option PyData
  | (.str n, d) :: r => if k = n then some d else fldGet k r
  | _ => none
def oFld (k : Str) : Op1 := fun d => match d with
  | .dict ((.none, .str c) :: r) => if errNames.contains c ∧ errFields.contains k then (fldGet k r).map .dat else none
  | _ => none
theorem excNm_some {d : PyData} {c : Str} (h : excNm d = some c) : ∃ r, d = .dict ((.none, .str c) :: r) ∧ errNames.contains c = true := by
  unfold excNm at h
  split at h
  · rename_i c2 r
    by_cases q : errNames.contains c2 = true
    · rw [if_pos q] at h
      cases h
      exact ⟨r, rfl, q⟩
    · rw [if_neg q] at h
      cases h
  · cases h
theorem Top.exc {K : PySem.W.Frag} {g : Gh} {H HF : Hp} {v : V} {c : Str} {r : List (PyData × PyData)} (t : Top K g H HF v (.dict ((.none, .str c) :: r))) (l : Le HF H) : ∃ a C od xs ds, v = .ref a ∧ H a = some (ExH a C od) ∧ errNm K C = some c ∧ XdH H od xs ∧ DRs K HF (xs.map (·.2)) ds ∧ r = fldD xs ds := by
  rcases t with h | ⟨p, vs, ds, rfl, e, _⟩
  · cases h with
    | @dic _ xs _ h e r =>
      clear r
      cases xs with
      | nil => simp at e
      | cons x xs =>
        obtain ⟨x1 | x1, x2⟩ := x <;> simp [keyD] at e
    | exc h1 h2 h3 h4 => exact ⟨_, _, _, _, _, rfl, l _ _ h1, h2, h3.mono l, h4, rfl⟩
  · cases e
section
variable {X : Cx} {W : Wish} {fa : Ex} {e : Expr} {p p2 pos : Pos}
theorem de_isE {t : Str} {cv : Value} {cl : V} (al : excAll X.K = true) (T : ErrT X.K X.mg t cv) (hcl : (∃ C, cv = .ref C ∧ cl = .ref C) ∨ (∃ n, cv = .type n ∧ cl = .ty n)) (hg : Gl X "isinstance") (hm : X.mg "isinstance" = none) (hg2 : Gl X t) (ha : DE X W e fa) (hdb2 : (t == ("__debug__" : Str)) = false := by decide)
    (he : starEach [e, .Name t p2] X.env = (false, eval e X.env) :: starEach [.Name t p2] X.env := by rfl) (he2 : starEach [.Name t p2] X.env = (false, eval (.Name t p2) X.env) :: starEach [] X.env := by rfl)
    (hpl : (backTo pos (starEach [.Name t p2] X.env)).any (·.1) = false := by rfl) : DE X W (.Call (.Name "isinstance" p) [e, .Name t p2] [] pos) (cUn (oIsE t) fa) := by
  have hr : RelV cl cv := by
    rcases hcl with ⟨C, rfl, rfl⟩ | ⟨n, rfl, rfl⟩ <;> rfl
  have hu : ∀ u, RelV cl u → u = cv := by
    rcases hcl with ⟨C, rfl, rfl⟩ | ⟨n, rfl, rfl⟩ <;> exact fun u q => q
  have hn : PE X (.Name t p2) (tC cl) := by
    rcases T.nm with h | ⟨h1, h2, h3⟩
    · exact pe_glob hg2 h hr hdb2
    · exact pe_bltn hg2 h1 h2 hr h3 hdb2
  exact pe_mono (pe_callB call_isX hg hm (by decide +kernel) (pa_cons ha (pa_cons hn pa_nil he2) he) (by decide) (by decide) he hpl) fun σ H Q h =>
    un_read (r := fun v H Q => rIsX X.K [v, cl] H Q) (fun g H HF f v d rv a t2 z Q k => by
      unfold oIsE at z
      cases y : excNm d with
      | none => rw [y] at z; cases z
      | some c =>
        rw [y] at z
        cases z
        obtain ⟨r, rfl, hc⟩ := excNm_some y
        obtain ⟨b, C, od, xs, ds, rfl, q1, q2, q3, _, _⟩ := t2.exc a.sub
        exact ⟨b, C, od, xs, c, cl, cv, _, rfl, q1, q3, al, q2, hc, hu, (isAll_of T.all q2 hc).1, k.now a (.bl _)⟩) h
end
/-- classes of the program, by name -/
def ErrP (K : PySem.W.Frag) (mg : Str → Option Value) (t : Str) : Prop := ∃ C, mg t = some (.ref C) ∧ isAll K t (.ref C) = true
inductive ClsE (X : Cx) : List Expr → List Str → List Addr → Prop where
  | nil : ClsE X [] [] []
  | cons {t : Str} {p : Pos} {C : Addr} {es : List Expr} {ts : List Str} {Cs : List Addr} : Gl X t → X.mg t = some (.ref C) → isAll X.K t (.ref C) = true → (t == ("__debug__" : Str)) = false →
      starEach (.Name t p :: es) X.env = (false, eval (.Name t p) X.env) :: starEach es X.env → ClsE X es ts Cs → ClsE X (.Name t p :: es) (t :: ts) (C :: Cs)
def ClsN (X : Cx) (es : List Expr) (ts : List Str) : Prop := ∃ Cs, ClsE X es ts Cs
theorem cls_nil {X : Cx} : ClsN X [] [] := ⟨[], .nil⟩
theorem cls_cons {X : Cx} {t : Str} {p : Pos} {es : List Expr} {ts : List Str} (h : ErrP X.K X.mg t) (hg : Gl X t) (r : ClsN X es ts) (hdb : (t == ("__debug__" : Str)) = false := by decide)
    (he : starEach (.Name t p :: es) X.env = (false, eval (.Name t p) X.env) :: starEach es X.env := by rfl) : ClsN X (.Name t p :: es) (t :: ts) := by
  obtain ⟨C, h1, h2⟩ := h
  obtain ⟨Cs, r⟩ := r
  exact ⟨C :: Cs, .cons hg h1 h2 hdb he r⟩
theorem ClsE.pa {X : Cx} : ∀ {es : List Expr} {ts : List Str} {Cs : List Addr}, ClsE X es ts Cs → PA X es fun _ H Q => Q (Cs.map V.ref) H
  | _, _, _, .nil => pa_nil
  | _, _, _, .cons hg hm _ hdb he r => pa_cons (pe_glob (v := .ref _) hg hm rfl hdb) r.pa he
theorem ClsE.any {X : Cx} {C : Addr} {c : Str} (en : errNm X.K C = some c) (hc : errNames.contains c = true) : ∀ {es : List Expr} {ts : List Str} {Cs : List Addr}, ClsE X es ts Cs → PySem.W.kitAny X.K (.ref C) (Cs.map Value.ref) = some (ts.any (exSub c))
  | _, _, _, .nil => rfl
  | _, _, _, .cons (t := t) (ts := ts) hg hm al _ _ r => by
    have ih := r.any en hc
    have k := (isAll_of al en hc).1
    show PySem.W.kitAny X.K (.ref C) (Value.ref _ :: _) = some (exSub c t || ts.any (exSub c))
    unfold PySem.W.kitAny
    rw [k]
    cases exSub c t with
    | true => rfl
    | false => exact ih
section
variable {X : Cx} {W : Wish} {fa : Ex} {e : Expr} {p p2 p3 pos : Pos} {es : List Expr} {ts : List Str}
theorem de_isEs {k : Nat} (al : excAll X.K = true) (T : ClsN X es ts) (hz : es.length ≤ 1000) (hg : Gl X "isinstance") (hm : X.mg "isinstance" = none) (ha : DE X W e fa)
    (ht : ∀ {ta : TA}, PA X es ta → PE X (.Tuple es k p2) (tTup ta))
    (he : starEach [e, .Tuple es k p2] X.env = (false, eval e X.env) :: starEach [.Tuple es k p2] X.env := by rfl) (he2 : starEach [.Tuple es k p2] X.env = (false, eval (.Tuple es k p2) X.env) :: starEach [] X.env := by rfl)
    (hpl : (backTo pos (starEach [.Tuple es k p2] X.env)).any (·.1) = false := by rfl) : DE X W (.Call (.Name "isinstance" p) [e, .Tuple es k p2] [] pos) (cUn (oIsEs ts) fa) := by
  obtain ⟨Cs, T⟩ := T
  have hlen : (Cs.map V.ref).length ≤ sizeLine := by
    have hl : ∀ {es : List Expr} {ts : List Str} {Cs : List Addr}, ClsE X es ts Cs → Cs.length = es.length := fun {es ts Cs} h => by
      induction h with
      | nil => rfl
      | cons _ _ _ _ _ _ ih => simp [ih]
    rw [List.length_map, hl T]
    exact Nat.le_trans hz (by decide)
  refine pe_mono (pe_callB call_isXT hg hm (by decide +kernel) (pa_cons ha (pa_cons (ht T.pa) pa_nil he2) he) (by decide) (by decide) he hpl) fun σ H Q ⟨g, HF, ρ, f, rel, q⟩ => ?_
  refine tD_pk rel q fun d f1 v G GF r1 s1 t1 q1 => ?_
  unfold oIsEs give at q1
  cases y : excNm d with
  | none =>
    rw [y] at q1
    exact (show False from q1).elim
  | some c =>
    rw [y] at q1
    obtain ⟨r, rfl, hc⟩ := excNm_some y
    obtain ⟨b, C, od, xs, ds, rfl, h1, h2, h3, _, _⟩ := t1.exc r1.sub
    refine ⟨hlen, fun tp ntp => ?_⟩
    obtain ⟨s2, f2⟩ := lay_new (o := .tup (Cs.map V.ref)) r1.sub r1.feed ntp
    refine ⟨b, C, tp, od, xs, c, Cs, _, rfl, by rw [upd_ne (ne_of_none h1 ntp)]; exact h1, ?_, al, h2, hc, upd_same, T.any h2 hc, ?_⟩
    · rcases h3 with ⟨e1, e2⟩ | ⟨dd, e1, e2⟩
      · exact .inl ⟨e1, e2⟩
      · exact .inr ⟨dd, e1, by rw [upd_ne (ne_of_none e2 ntp)]; exact e2⟩
    · exact (show Fin X.K g σ H HF Q (.dat (.bool _)) f1 from q1) _ _ _ (s1.trans r1.feed s2) f2 (.bl _)
/-- e.f -/
theorem de_fld {n : Str} (al : excAll X.K = true) (ha : DE X W e fa) (hb : attributeBase e n X.env (eval e X.env) = eval e X.env := by rfl) : DE X W (.Attribute e n pos) (cUn (oFld n) fa) := by
  refine ⟨fun pins s σ H Q I ⟨g, HF, ρ, f, rel, q⟩ => ?_⟩
  have hh : tD X.K X.mg W fa σ H fun v G => ∃ (a C : Addr) (od : Option Addr) (xs : List (Str × V)) (c : Str) (w : V), v = .ref a ∧ G a = some (ExH a C od) ∧ errNm X.K C = some c ∧ errNames.contains c = true ∧ errFields.contains n = true ∧ XdH G od xs ∧ xs.lookup n = some w ∧ Q w G := by
    refine tD_pk rel q fun d f1 v G GF r1 s1 t1 q1 => ?_
    cases y : oFld n d with
    | none =>
      rw [y] at q1
      exact (show False from q1).elim
    | some rv =>
      rw [y] at q1
      unfold oFld at y
      split at y
      · rename_i c r
        by_cases c1 : errNames.contains c = true ∧ errFields.contains n = true
        · rw [if_pos c1] at y
          obtain ⟨b, C, od, xs, ds, rfl, h1, h2, h3, h4, rfl⟩ := t1.exc r1.sub
          cases yy : fldGet n (fldD xs ds) with
          | none => rw [yy] at y; cases y
          | some d2 =>
            rw [yy] at y
            cases y
            have look : ∀ {xs : List (Str × V)} {ds : List PyData}, DRs X.K GF (xs.map (·.2)) ds → fldGet n (fldD xs ds) = some d2 → ∃ w, xs.lookup n = some w ∧ DR X.K GF w d2 := by
              intro xs
              induction xs with
              | nil =>
                intro ds _ e
                cases e
              | cons x xs ih =>
                intro ds hd e
                obtain ⟨k, u⟩ := x
                cases hd with
                | @cons _ _ d3 ds3 hd1 hd2 =>
                  have e2 : (if n = k then some d3 else fldGet n (fldD xs ds3)) = some d2 := e
                  by_cases z : n = k
                  · rw [if_pos z] at e2
                    cases e2
                    exact ⟨u, by subst z; simp [List.lookup], hd1⟩
                  · rw [if_neg z] at e2
                    obtain ⟨w, w1, w2⟩ := ih hd2 e2
                    have z2 : (n == k) = false := by simpa using z
                    exact ⟨w, by simp only [List.lookup, z2]; exact w1, w2⟩
            obtain ⟨w, w1, w2⟩ := look h4 yy
            exact ⟨b, C, od, xs, c, w, rfl, h1, h2, c1.1, c1.2, h3, w1, (show Fin X.K g σ H HF Q (.dat d2) f1 from q1) w G GF s1 r1.feed w2⟩
        · rw [if_neg c1] at y
          cases y
      · cases y
  refine attr_of hb (thn (ha.run pins s σ H _ I hh) fun u s1 hq => ?_)
  obtain ⟨x, H1, I1, rx, a, C, od, xs, c, w, rfl, h1, h2, hc, hf, h3, hw, q2⟩ := hq
  obtain rfl : u = Value.ref a := rx
  obtain ⟨k1, k2, k3, k4, k5, k6, k7⟩ := excOk_of (excAll_of al h2 hc)
  have h0 : ObjOk X.prog X.w H1 s1.heap a (.ext fun h => ∃ oe vs, h.get? a = some oe ∧ Zc (.ref C) od oe ∧ oe.data = .fields vs) := I1.hok a _ h1
  obtain ⟨⟨oe, vs, e1, e2, e3⟩, _, _⟩ := h0
  have hn : PySem.W.notCls oe = true := by unfold PySem.W.notCls; rw [e3] <;> rfl
  rcases h3 with ⟨_, rfl⟩ | ⟨d, rfl, hd⟩
  · cases hw
  · have h2' : ObjOk X.prog X.w H1 s1.heap d (.xd xs) := I1.hok d _ hd
    obtain ⟨mA, hns, hr⟩ := h2'
    obtain ⟨oD, ho, hl⟩ := lookIn_ns hns
    obtain ⟨u2, hu, ru⟩ := RelO.some_of (v := w) (o := mA n) (by rw [← hw]; exact hr n)
    have J : PySem.W.InstAt s1.heap a oe C (some oD) := ⟨e1, e2.1, hn, by rw [e2.2]; exact ho⟩
    exact HandSPX.exc_get I1.kIn J k1 k2 k3 (PySem.W.findObj_own k4 (k7 n (by simpa using hf)) rfl (by rw [hl, hu])) (handed_of ru) ⟨w, H1, I1.tok _, ru, q2⟩
end
theorem Rel.drop {K : PySem.W.Frag} {g : Gh} {σ : St} {H HF : Hp} {ρ : Rho} {f : Feed} (r : Rel K g σ H HF ρ f) (j : Nat) : Rel K g (σ.set j none) H HF (ρ.set j .emp) f := r.wiped [j]
section
variable {X : Cx} {E : XK} {n y t : Str} {e : Expr} {pn2 pos pos' pos2 np : Pos} {b₀ : Stmt} {suite : List Stmt} {x : Ex} {i j : Nat} {su : Sm} {cv : Value} {names : List Str}
theorem caught_read {g : Gh} {σ : St} {G GF : Hp} {ρ : Rho} {f1 : Feed} {D : Ends} {C : Addr} {c : Str} {od : Option Addr} {vs : List (Str × PyData)} (T : ErrT X.K X.mg t cv) (hh : ∀ c ∈ names, (∃ C, X.mg c = some (.ref C) ∧ errNm X.K C = some c) ∧ errNames.contains c = true ∧ exSub c t = true)
    (r1 : Rel X.K g σ G GF ρ f1) (hm : X.mg c = some (.ref C)) (xd : Xd X.K G GF od vs) (q : XF X.K X.mg g E (caught j names su c vs ρ f1) (FinS X.K g D)) :
    wT X.K cv j (tDS X.K X.mg (fun _ _ _ => False) su) D (.ref C) od σ G := by
  unfold caught at q
  by_cases c1 : names.contains c = true
  · rw [if_pos c1] at q
    obtain ⟨⟨C2, m2, en⟩, hc, ex⟩ := hh c (by simpa using c1)
    obtain rfl : C2 = C := by
      rw [m2] at hm
      cases hm
      rfl
    refine ⟨C2, rfl, by rw [(isAll_of T.all en hc).2, ex], fun a na => ?_⟩
    obtain ⟨s2, h2⟩ := lay_new (o := ExH a C2 od) r1.sub r1.feed na
    obtain ⟨xs, x1, x2, x3⟩ := xd
    have dr : DR X.K (upd GF a (ExH a C2 od)) (.ref a) (excD c vs) := by
      have := DR.exc (a := a) (C := C2) (od := od) (c := c) (xs := xs) upd_same en (x1.mono s2.le) (x3.mono s2.le)
      rw [fld_map x2] at this
      exact this
    refine ⟨g, _, ρ.set j (.dat (excD c vs)), f1, (r1.step s2 h2).putD dr, ?_⟩
    cases z : su (ρ.set j (.dat (excD c vs))) f1 with
    | no =>
      rw [z] at q
      exact q
    | ex _ _ _ =>
      rw [z] at q
      exact (show False from q).elim
    | ok k f2 =>
      rw [z] at q
      cases k with
      | nx ρ2 => exact fun σ2 G2 GF2 r2 => (show FinS X.K g D (.nx (ρ2.set j .emp)) f2 from q) _ G2 GF2 (r2.drop j)
      | bk ρ2 => exact fun σ2 G2 GF2 r2 => (show FinS X.K g D (.bk (ρ2.set j .emp)) f2 from q) _ G2 GF2 (r2.drop j)
      | ct ρ2 => exact fun σ2 G2 GF2 r2 => (show FinS X.K g D (.ct (ρ2.set j .emp)) f2 from q) _ G2 GF2 (r2.drop j)
      | rt v => exact q
  · rw [if_neg c1] at q
    exact (show False from q).elim
theorem ds_tryS (hs : X.stack = X.env :: X.outer) (hf : X.env.frame = some X.env.locals) (hN : X.N.Nodup) (hi : X.N[i]? = some n) (hx : Loc X.env.scope n) (hj : X.N[j]? = some y) (hy : X.env.kindOf y = some .local) (hg : Gl X t) (T : ErrT X.K X.mg t cv)
    (hh : ∀ c ∈ names, (∃ C, X.mg c = some (.ref C) ∧ errNm X.K C = some c) ∧ errNames.contains c = true ∧ exSub c t = true)
    (he : ∀ (W : WX) (pn : List (Addr × Obj)) (xe : Value → Shared → Prop), Takes (X.tr pn xe) W → PassesOwn (model X.prog X.w) X.A X.env xe → DE (X.tr pn xe) (fun σ cls d H => W cls d σ H) e x)
    (hsu : ∀ (a : Addr) (pn : List (Addr × Obj)), DSs (X.suite a pn) (fun _ _ _ => False) (b₀ :: suite) su) (hdb : (t == ("__debug__" : Str)) = false := by decide)
    (hsw : swapsWith e (some (.Name n pn2)) pos2.line X.env = pure false := by rfl)
    (hl : X.fn n = true ∨ X.env.scope.names.lookup n = some .local := by first | exact .inl rfl | exact .inr rfl | assumption) :
    DS X E (.Try [.Assign [.Name n pn2] e pos2] [.ExceptHandler (some (.Name t np)) (some y) (b₀ :: suite) pos'] [] [] pos) (sTryS i j x names su) := by
  refine ps_mono (ps_tryT (tb := fun W => tAsg (tD X.K X.mg (fun σ cls d H => W cls d σ H) x) (gName i)) (ts := tDS X.K X.mg (fun _ _ _ => False) su) hs hf hN hj hy ⟨hg, hdb, T.nm⟩
    (fun W pn xe tk po => pss_one (ps_set (X := X.tr pn xe) hN hi hx (he W pn xe tk po) hsw hl)) hsu) fun D σ H q => ?_
  obtain ⟨g, HF, ρ, f, rel, q⟩ := q
  refine ⟨g, HF, ρ, f, rel, ?_⟩
  unfold sTryS at q
  cases z : x ρ f with
  | no =>
    rw [z] at q
    exact q
  | ok rv f1 =>
    rw [z] at q
    intro v G GF s1 h1 rr
    cases z2 : slotOf rv with
    | none =>
      simp only [z2] at q
      exact (show False from q).elim
    | some s =>
      simp only [z2] at q
      exact (show FinS X.K g D (.nx (ρ.set i s)) f1 from q) _ G GF (rel.put s1 (rel.step s1 h1) rr z2)
  | ex c vs f1 =>
    rw [z] at q
    exact fun C od G GF hm s1 h1 xd => caught_read T hh (rel.step s1 h1) hm xd q
end
theorem errT_p {K : PySem.W.Frag} {mg : Str → Option Value} {t : Str} (h : ErrP K mg t) : ∃ C, ErrT K mg t (.ref C) := by
  obtain ⟨C, h1, h2⟩ := h
  exact ⟨C, .inl h1, h2⟩
end Dn
namespace Dn
open PySem PySem.Spec L2
/-- the class above all refusals -/
structure ErrB (K : PySem.W.Frag) (mg : Str → Option Value) : Prop where
  ex : ∃ B, mg "FreshError" = some (.ref B) ∧ PySem.W.specialIn K (.ref B) "__getattribute__" = some (some (.builtin "type.__getattribute__")) ∧ PySem.W.readsIn K B (.type "type") = true ∧
    PySem.W.findCls K (.ref B) (.type "type") "__init__" = some (.val (.builtin "ValueError.__init__"))
/-- a class of refusals and its __init__, as they stand behind the top -/
structure ErrS (K : PySem.W.Frag) (mg : Str → Option Value) (x : Str) (fs : List Str) (q : Str) (st : Stmt) : Prop where
  ex : ∃ C fI fd, mg x = some (.ref C) ∧ OexC K C ∧ (∀ f ∈ fs, PySem.W.findIn K (.ref C) f = some none) ∧ PySem.W.findIn K (.ref C) "__init__" = some (some (.ref fI)) ∧ PySem.W.typeIn K (.ref fI) = some (.type "function") ∧
    Fun K "__init__" q st fI fd ∧ Binds K fd (("self" : Str) :: fs) [] ∧ errNm K C = some x
theorem errB_mk {K : PySem.W.Frag} {h : Heap} {mg : Str → Option Value} {B : Addr} (X : K.In h) (G : h.Ns mainGlobals mg) (a : PySem.W.nsIn K mainGlobals "FreshError" = some (some (.ref B))) (s : PySem.W.specialIn K (.ref B) "__getattribute__" = some (some (.builtin "type.__getattribute__")))
    (r : PySem.W.readsIn K B (.type "type") = true) (f : PySem.W.findCls K (.ref B) (.type "type") "__init__" = some (.val (.builtin "ValueError.__init__"))) : ErrB K mg := ⟨⟨B, PySem.W.mg_of X G a, s, r, f⟩⟩
theorem errS_mk {K : PySem.W.Frag} {h : Heap} {mg : Str → Option Value} {x q0 q : Str} {fs : List Str} {st : Stmt} {C B f1 : Addr} {N bs sn sub ab col dd k0 k1 k2 k3 k5} {oc kV dc pm cd ct : Value} {od an : Option Addr} {sl : Array (Option Value)} (X : K.In h) (G : h.Ns mainGlobals mg)
    (a : PySem.W.nsIn K mainGlobals x = some (some (.ref C)))
    (l : K.lookup C = some (excClassObj x q0 C N bs [.ref B, .type "ValueError", .type "Exception", .type "BaseException", .type "object"] true sn sub ab col dd k0 k1 k2 k3 k5 "ValueError.__new__"))
    (s : PySem.W.findIn K (.ref C) "__setattr__" = some (some (.builtin "object.__setattr__"))) (e : PySem.W.subIn K (.ref C) (.type "BaseException") = some true) (t : PySem.W.typeIn K (.ref C) = some (.type "type")) (k : PySem.W.keepIn K (.ref C) = true)
    (n : (fs.all fun f => decide (PySem.W.findIn K (.ref C) f = some none)) = true) (i : PySem.W.findIn K (.ref C) "__init__" = some (some (.ref f1))) (j : PySem.W.typeIn K (.ref f1) = some (.type "function"))
    (m : K.lookup f1 = some ⟨oc, od, .func (PySem.W.fnOf "__init__" q (defArgs st) (defBody st) (defScope st) .none kV dc pm an cd ct), sl⟩) (c : PySem.W.codeIn K cd q = true) (y : PySem.W.keepIn K (.ref f1) = true)
    (hb : ∀ (kV doc pm : Value) (an : Option Addr) (cdv ct : Value) (us : List Value), us.length = (("self" : Str) :: fs).length → bindArgs (PySem.W.fnOf "__init__" q (defArgs st) (defBody st) (defScope st) .none kV doc pm an cdv ct) ⟨us, []⟩ = pure ((("self" : Str) :: fs).zip us)) : ErrS K mg x fs q st := by
  refine ⟨⟨C, f1, _, PySem.W.mg_of X G a, ⟨⟨_, _, _, _, _, _, _, _, _, _, _, _, _, _, _, l, by unfold PySem.HandSPX.refsVE; decide +kernel⟩, s, e, t, k⟩, fun f hf => of_decide_eq_true (List.all_eq_true.mp n f hf), i, j, fun_mk m c y, (fun_mk m c y).binds hb, ?_⟩⟩
  unfold errNm PySem.W.clsIn
  rw [l]
  rfl
theorem errP_mk {K : PySem.W.Frag} {h : Heap} {mg : Str → Option Value} {x : Str} {C : Addr} (X : K.In h) (G : h.Ns mainGlobals mg) (a : PySem.W.nsIn K mainGlobals x = some (some (.ref C))) (b : isAll K x (.ref C) = true) : ErrP K mg x := ⟨C, PySem.W.mg_of X G a, b⟩
section
variable {P : Program} {w : World} {K : PySem.W.Frag} {mg : Str → Option Value} {base : Heap} {x q : Str} {st : Stmt}
theorem errI_mk {fs : List Str} {tt : TS} (B : ErrB K mg) (S : ErrS K mg x fs q st) (sc : FnScope (("self" : Str) :: fs) (("self" : Str) :: fs) (defScope st))
    (pure_ : ∀ {C : Addr} {vs : List V} {H : Hp} {Q : VK} {E : XK}, spIni K C fs vs H Q E → tt { nx := fun _ G => Q .non G, rt := Q } (L2.start (("self" : Str) :: fs) vs) H)
    (body : ∀ {B : Addr} (_ : mg "FreshError" = some (.ref B)) (_ : PySem.W.specialIn K (.ref B) "__getattribute__" = some (some (.builtin "type.__getattribute__"))) (_ : PySem.W.readsIn K B (.type "type") = true)
      (_ : PySem.W.findCls K (.ref B) (.type "type") "__init__" = some (.val (.builtin "ValueError.__init__"))) (f : Addr) (cdv : Value) (A : Around) (outer : List Env) (s : Shared) (H : Hp) (E : XK),
      PSs (cxOf CX0 P w K mg base (("self" : Str) :: fs) q (defScope st) f cdv A outer s H E).nox (defBody st) tt) : ErrI P w K mg base x fs := by
  obtain ⟨C, fI, fd, h1, h2, h3, h4, h5, F, hb, _⟩ := S.ex
  obtain ⟨B, b1, b2, b3, b4⟩ := B.ex
  exact ⟨C, fI, fd, h1, h2, h3, h4, h5, F.ok (k := 0) sc (fun vs H Q E h => by
    obtain ⟨a, ws, rfl, hl, _⟩ := h
    simp [hl]) fun cdv A outer s H vs Q E hr h => ⟨tt, body b1 b2 b3 b4 fI cdv A outer s H E, pure_ h⟩, hb⟩
end
theorem ErrS.nm {K : PySem.W.Frag} {mg : Str → Option Value} {x q : Str} {fs : List Str} {st : Stmt} (S : ErrS K mg x fs q st) : ∃ C, mg x = some (.ref C) ∧ errNm K C = some x := by
  obtain ⟨C, _, _, h, _, _, _, _, _, _, e⟩ := S.ex
  exact ⟨C, h, e⟩
/-- what try wants of the names that it catches -/
theorem names_nil {K : PySem.W.Frag} {mg : Str → Option Value} {t : Str} : ∀ c ∈ ([] : List Str), (∃ C, mg c = some (.ref C) ∧ errNm K C = some c) ∧ errNames.contains c = true ∧ exSub c t = true := fun c h => nomatch h
theorem names_cons {K : PySem.W.Frag} {mg : Str → Option Value} {t x : Str} {l : List Str} (h : ∃ C, mg x = some (.ref C) ∧ errNm K C = some x) (r : ∀ c ∈ l, (∃ C, mg c = some (.ref C) ∧ errNm K C = some c) ∧ errNames.contains c = true ∧ exSub c t = true)
    (h1 : errNames.contains x = true := by decide) (h2 : exSub x t = true := by decide) : ∀ c ∈ x :: l, (∃ C, mg c = some (.ref C) ∧ errNm K C = some c) ∧ errNames.contains c = true ∧ exSub c t = true := fun c hc => by
  rcases List.mem_cons.mp hc with rfl | hc
  · exact ⟨h, h1, h2⟩
  · exact r c hc
end Dn
end
namespace Dn
open PySem PySem.Spec L2
section
variable {α β : Type}
theorem nr {γ : Sort _} {a b : γ} (h : a = b) : a = b := h
theorem nri {a b : Prop} (h : a ↔ b) : a ↔ b := h
/-- it comes to something of this kind -/
def Ev (r : R α) (P : α → Feed → Prop) : Prop := ∃ a f, r = .ok a f ∧ P a f
theorem Ev.mono {r : R α} {P Q : α → Feed → Prop} (h : Ev r P) (m : ∀ a f, P a f → Q a f) : Ev r Q := by
  obtain ⟨a, f, e, p⟩ := h
  exact ⟨a, f, e, m a f p⟩
@[simp] theorem ev_ok {a : α} {f : Feed} {P : α → Feed → Prop} : Ev (.ok a f) P ↔ P a f := by
  constructor
  · rintro ⟨b, g, e, p⟩
    cases e
    exact p
  · exact fun p => ⟨a, f, rfl, p⟩
@[simp] theorem ev_no {P : α → Feed → Prop} : Ev (.no) P ↔ False := by
  constructor
  · rintro ⟨b, g, e, p⟩
    cases e
  · exact False.elim
@[simp] theorem ev_bind {r : R α} {k : α → Feed → R β} {P : β → Feed → Prop} : Ev (r.bind k) P ↔ Ev r fun a f => Ev (k a f) P := by
  cases r with
  | no => exact ⟨fun ⟨_, _, e, _⟩ => (by cases e), fun ⟨_, _, e, _⟩ => (by cases e)⟩
  | ex c v f => exact ⟨fun ⟨_, _, e, _⟩ => (by cases e), fun ⟨_, _, e, _⟩ => (by cases e)⟩
  | ok a f => exact ⟨fun h => ev_ok.mpr h, fun h => ev_ok.mp h⟩
@[simp] theorem bind_ok {a : α} {f : Feed} {k : α → Feed → R β} : (R.ok a f).bind k = k a f := nr rfl
@[simp] theorem pk_ok_dat {d : PyData} {f : Feed} {k : PyData → Feed → R β} : pk (.ok (.dat d) f) k = k d f := nr rfl
@[simp] theorem pk_ok_own {d : List PyData} {f : Feed} {k : PyData → Feed → R β} : pk (.ok (.own d) f) k = k (.list d) f := nr rfl
@[simp] theorem pk_ok_lent {i : Nat} {d : List PyData} {f : Feed} {k : PyData → Feed → R β} : pk (.ok (.lent i d) f) k = k (.list d) f := nr rfl
@[simp] theorem dt_ok_dat {d : PyData} {f : Feed} {k : PyData → Feed → R β} : dt (.ok (.dat d) f) k = k d f := nr rfl
@[simp] theorem dt_ok_own {d : List PyData} {f : Feed} {k : PyData → Feed → R β} : dt (.ok (.own d) f) k = k (.list d) f := nr rfl
section
variable {γ : Type} {r : R RV} {k : PyData → Feed → R RV} {k2 : PyData → Feed → R γ} {q : α → Feed → R RV} {k3 : RV → Feed → R γ} {ra : R α}
@[simp] theorem pk_pk : pk (pk r k) k2 = pk r fun d f => pk (k d f) k2 := by
  unfold pk
  cases r with
  | no => rfl
  | ex c v f => rfl
  | ok a f =>
    simp only [R.bind]
    cases a.peek <;> rfl
@[simp] theorem pk_dt : pk (dt r k) k2 = dt r fun d f => pk (k d f) k2 := by
  unfold pk dt
  cases r with
  | no => rfl
  | ex c v f => rfl
  | ok a f =>
    simp only [R.bind]
    cases a.data <;> rfl
@[simp] theorem dt_pk : dt (pk r k) k2 = pk r fun d f => dt (k d f) k2 := by
  unfold pk dt
  cases r with
  | no => rfl
  | ex c v f => rfl
  | ok a f =>
    simp only [R.bind]
    cases a.peek <;> rfl
@[simp] theorem dt_dt : dt (dt r k) k2 = dt r fun d f => dt (k d f) k2 := by
  unfold dt
  cases r with
  | no => rfl
  | ex c v f => rfl
  | ok a f =>
    simp only [R.bind]
    cases a.data <;> rfl
@[simp] theorem pk_bind2 : pk (ra.bind q) k2 = ra.bind fun a f => pk (q a f) k2 := by
  cases ra <;> rfl
@[simp] theorem dt_bind2 : dt (ra.bind q) k2 = ra.bind fun a f => dt (q a f) k2 := by
  cases ra <;> rfl
@[simp] theorem bind_bind2 {k4 : β → Feed → R γ} {q4 : α → Feed → R β} : (ra.bind q4).bind k4 = ra.bind fun a f => (q4 a f).bind k4 := by
  cases ra <;> rfl
@[simp] theorem bind_pk {k4 : β → Feed → R γ} {k5 : PyData → Feed → R β} : (pk r k5).bind k4 = pk r fun d f => (k5 d f).bind k4 := by
  unfold pk
  cases r with
  | no => rfl
  | ex c v f => rfl
  | ok a f =>
    simp only [R.bind]
    cases a.peek <;> rfl
@[simp] theorem bind_dt {k4 : β → Feed → R γ} {k5 : PyData → Feed → R β} : (dt r k5).bind k4 = dt r fun d f => (k5 d f).bind k4 := by
  unfold dt
  cases r with
  | no => rfl
  | ex c v f => rfl
  | ok a f =>
    simp only [R.bind]
    cases a.data <;> rfl
end
@[simp] theorem noEx_ok2 {a : α} {f : Feed} : noEx (.ok a f) = .ok a f := nr rfl
end
section
variable {ρ : Rho} {f : Feed} {d : PyData} {ds : List PyData} {i : Nat} {a b c : Ex} {β : Type}
@[simp] theorem give_some {rv : RV} : give (some rv) f = .ok rv f := nr rfl
@[simp] theorem give_none : give none f = .no := nr rfl
@[simp] theorem give_ite {p : Prop} [Decidable p] {x y : Option RV} : give (if p then x else y) f = if p then give x f else give y f := by
  split <;> rfl
variable {x y : Int} {s t : Str} {p q : Bool} {xs ys : List PyData}
@[simp] theorem oAdd_int : oAdd (.int x) (.int y) = some (.dat (.int (x + y))) := nr rfl
@[simp] theorem oAdd_list : oAdd (.list xs) (.list ys) = if xs.length + ys.length ≤ 100000 then some (.own (xs ++ ys)) else none := by
  unfold oAdd catL
  simp [intsOp]
  split <;> rfl
@[simp] theorem oAdd_tuple : oAdd (.tuple xs) (.tuple ys) = if xs.length + ys.length ≤ 100000 then some (.dat (.tuple (xs ++ ys))) else none := by
  unfold oAdd catT
  simp [intsOp, catL]
  split <;> rfl
@[simp] theorem oAdd_str : oAdd (.str s) (.str t) = if s.length + t.length ≤ 100000 then some (.dat (.str (s ++ t))) else none := by
  unfold oAdd catS
  simp [intsOp, catL, catT]
@[simp] theorem oSub_int : oSub (.int x) (.int y) = some (.dat (.int (x - y))) := nr rfl
theorem oMul_int (h : mulC x y = true) : oMul (.int x) (.int y) = some (.dat (.int (x * y))) := by
  unfold oMul intsOp
  simp [h]
@[simp] theorem oMul_list : oMul (.list xs) (.int x) = if -1000 ≤ x ∧ x ≤ 1000 ∧ xs.length ≤ 1000 then some (.own (List.replicate x.toNat xs).flatten) else none := by
  unfold oMul repL
  simp [intsOp, repT]
@[simp] theorem oMul_tuple : oMul (.tuple xs) (.int x) = if -1000 ≤ x ∧ x ≤ 1000 ∧ xs.length ≤ 1000 then some (.dat (.tuple (List.replicate x.toNat xs).flatten)) else none := by
  unfold oMul repT
  simp [intsOp, repL]
theorem oDiv_int (h : 0 < y) (h2 : y.natAbs.log2 < 9000) : oDiv (.int x) (.int y) = some (.dat (.int (x / y))) := by
  unfold oDiv intsOp divC
  simp [h, h2]
theorem oMod_int (h : 0 < y) : oMod (.int x) (.int y) = some (.dat (.int (x % y))) := by
  unfold oMod intsOp modC
  simp [h]
theorem oPow_int (h : 0 ≤ y) (h2 : y ≤ 1000000) (h3 : x.natAbs < 2 ^ 64) : oPow (.int x) (.int y) = some (.dat (.int (x ^ y.toNat))) := by
  unfold oPow intsOp powC
  simp only [h, h2, h3, decide_true, Bool.and_self, if_true]
@[simp] theorem oLt_int : oLt (.int x) (.int y) = some (.dat (.bool (decide (x < y)))) := nr rfl
@[simp] theorem oLe_int : oLe (.int x) (.int y) = some (.dat (.bool (decide (x ≤ y)))) := nr rfl
@[simp] theorem oGt_int : oGt (.int x) (.int y) = some (.dat (.bool (decide (y < x)))) := nr rfl
@[simp] theorem oGe_int : oGe (.int x) (.int y) = some (.dat (.bool (decide (y ≤ x)))) := nr rfl
@[simp] theorem oLeA_int : oLeA (.int x) (.int y) = some (.dat (.bool (decide (x ≤ y)))) := nr rfl
@[simp] theorem oEq_str : oEq (.str s) (.str t) = some (.dat (.bool (decide (s = t)))) := rfl
@[simp] theorem oNe_str : oNe (.str s) (.str t) = some (.dat (.bool (!decide (s = t)))) := rfl
theorem eqv_str : PyData.eqv (.str s) (.str t) = decide (s = t) := by
  simp only [PyData.eqv]
  by_cases h : s = t
  · subst h
    simp
  · simp [h]
theorem oEq_of {d e : PyData} (h : SeqAt.shaped d = true) (h2 : SeqAt.shaped e = true) : oEq d e = some (.dat (.bool (PyData.eqv d e))) := by
  have q : eqD d e = some (.dat (.bool (PyData.eqv d e))) := by
    unfold eqD
    simp [h, h2]
  unfold oEq
  rw [q]
  cases d <;> cases e <;> first | rfl | (rw [eqv_str]; rfl)
theorem oNe_of {d e : PyData} (h : SeqAt.shaped d = true) (h2 : SeqAt.shaped e = true) : oNe d e = some (.dat (.bool (!PyData.eqv d e))) := by
  have q : neD d e = some (.dat (.bool (!PyData.eqv d e))) := by
    unfold neD
    simp [h, h2]
  unfold oNe
  rw [q]
  cases d <;> cases e <;> first | rfl | (rw [eqv_str]; rfl)
@[simp] theorem oEq_int : oEq (.int x) (.int y) = some (.dat (.bool (decide (x = y)))) := by
  rw [oEq_of rfl rfl]
  rfl
@[simp] theorem oNe_int : oNe (.int x) (.int y) = some (.dat (.bool (!decide (x = y)))) := by
  rw [oNe_of rfl rfl]
  rfl
@[simp] theorem oNeg_int : oNeg (.int x) = some (.dat (.int (-x))) := nr rfl
@[simp] theorem oAbs_int : oAbs (.int x) = some (.dat (.int x.natAbs)) := by
  show some (RV.dat (.int (if x < 0 then -x else x))) = _
  have e : (if x < 0 then -x else x) = (x.natAbs : Int) := by split <;> omega
  rw [e]
@[simp] theorem oInt_int : oInt (.int x) = some (.dat (.int x)) := nr rfl
@[simp] theorem oInt_bool : oInt (.bool p) = some (.dat (.int (if p then 1 else 0))) := nr rfl
@[simp] theorem oLen_list : oLen (.list xs) = some (.dat (.int xs.length)) := nr rfl
@[simp] theorem oLen_tuple : oLen (.tuple xs) = some (.dat (.int xs.length)) := nr rfl
@[simp] theorem oTuple_list : oTuple (.list xs) = some (.dat (.tuple xs)) := nr rfl
@[simp] theorem oTuple_tuple : oTuple (.tuple xs) = some (.dat (.tuple xs)) := nr rfl
@[simp] theorem oList_list : oList (.list xs) = some (.own xs) := nr rfl
@[simp] theorem oList_tuple : oList (.tuple xs) = some (.own xs) := nr rfl
@[simp] theorem oMax_int : oMax (.int x) (.int y) = some (.dat (.int (max x y))) := by
  show some (RV.dat (.int (if y > x then y else x))) = _
  have e : (if y > x then y else x) = max x y := by split <;> omega
  rw [e]
@[simp] theorem oMin_int : oMin (.int x) (.int y) = some (.dat (.int (min x y))) := by
  show some (RV.dat (.int (if y < x then y else x))) = _
  have e : (if y < x then y else x) = min x y := by split <;> omega
  rw [e]
@[simp] theorem intsOf_ints : ∀ ns : List Int, intsOf (ns.map .int) = some ns
  | [] => rfl
  | n :: r => by
    show (intsOf (r.map .int)).map (n :: ·) = _
    rw [intsOf_ints r]
    rfl
@[simp] theorem oSum_ints {ns : List Int} : oSum (.list (ns.map .int)) = some (.dat (.int ns.sum)) := by
  show (intsOf (ns.map .int)).map _ = _
  rw [intsOf_ints]
  rfl
@[simp] theorem boolsOf_bools : ∀ ns : List Bool, boolsOf (ns.map .bool) = some ns
  | [] => rfl
  | n :: r => by
    show (boolsOf (r.map .bool)).map (n :: ·) = _
    rw [boolsOf_bools r]
    rfl
@[simp] theorem oAll_bools {ns : List Bool} : oAll (.list (ns.map .bool)) = some (.dat (.bool (ns.all id))) := by
  show (boolsOf (ns.map .bool)).map _ = _
  rw [boolsOf_bools]
  rfl
@[simp] theorem cNot_bool : cNot (.bool p) = some (.dat (.bool (!p))) := nr rfl
@[simp] theorem okTy_int {i : Int} : okTy (.int i) = true := nr rfl
@[simp] theorem okTy_bool {i : Bool} : okTy (.bool i) = true := nr rfl
@[simp] theorem okTy_str {i : Str} : okTy (.str i) = true := nr rfl
@[simp] theorem okTy_none : okTy .none = true := nr rfl
@[simp] theorem okTy_list {ds : List PyData} : okTy (.list ds) = true := nr rfl
@[simp] theorem okTy_tuple {ds : List PyData} : okTy (.tuple ds) = true := nr rfl
@[simp] theorem okTy_dict0 : okTy (.dict []) = true := nr rfl
@[simp] theorem oIsi_of {T : String} (h : okTy d = true) : oIsi T d = some (.dat (.bool (isOf T d))) := by
  unfold oIsi
  rw [if_pos h]
@[simp] theorem oIsB_bool {n : Bool} : oIsB n (.bool p) (.bool q) = some (.dat (.bool (if n then !decide (p = q) else decide (p = q)))) := nr rfl
@[simp] theorem oIsN_none {n : Bool} : oIsN n d .none = some (.dat (.bool (if n then !isNone d else isNone d))) := nr rfl
@[simp] theorem ixN_nat {m n : Nat} : ixN m (n : Int) = if n < m then some n else none := by
  unfold ixN
  rw [if_pos (Int.natCast_nonneg n)]
  by_cases h : n < m
  · rw [if_pos (by omega), if_pos h, Int.toNat_natCast]
  · rw [if_neg (by omega), if_neg h]
@[simp] theorem atI_nat {α : Type} {xs : List α} {n : Nat} : atI xs (n : Int) = xs[n]? := by
  unfold atI
  rw [ixN_nat]
  by_cases h : n < xs.length
  · rw [if_pos h]
    rfl
  · rw [if_neg h, List.getElem?_eq_none (by omega)]
    rfl
@[simp] theorem atI_lit {α : Type} {xs : List α} {n : Nat} : atI xs (OfNat.ofNat n : Int) = xs[n]? := atI_nat (n := n)
end
end Dn
namespace Dn
open PySem PySem.Spec L2
section
variable {ρ : Rho} {f : Feed} {a b c : Ex} {s s2 : Sm} {t u : Tx} {i j : Nat}
@[simp] theorem e_seq : sSeq s s2 ρ f = (s ρ f).bind fun c f1 => andThen c f1 s2 := nr rfl
@[simp] theorem e_then_nx {k : Rho → Feed → R Ctl} : andThen (.nx ρ) f k = k ρ f := nr rfl
@[simp] theorem e_then_rt {v : RV} {k : Rho → Feed → R Ctl} : andThen (.rt v) f k = .ok (.rt v) f := nr rfl
@[simp] theorem e_then_bk {k : Rho → Feed → R Ctl} : andThen (.bk ρ) f k = .ok (.bk ρ) f := nr rfl
@[simp] theorem e_then_ct {k : Rho → Feed → R Ctl} : andThen (.ct ρ) f k = .ok (.ct ρ) f := nr rfl
@[simp] theorem e_set : sSet i a ρ f = (a ρ f).bind fun rv f1 => match slotOf rv with
  | some s => .ok (.nx (ρ.set i s)) f1
  | none => .no := nr rfl
@[simp] theorem e_ret : sRet a ρ f = (a ρ f).bind fun rv f1 => .ok (.rt rv) f1 := nr rfl
@[simp] theorem e_if : sIf t s s2 ρ f = (t ρ f).bind fun c f1 => if c = true then s ρ f1 else s2 ρ f1 := nr rfl
@[simp] theorem e_drop : sDrop a ρ f = (a ρ f).bind fun _ f1 => .ok (.nx ρ) f1 := nr rfl
@[simp] theorem e_next : sNext ρ f = .ok (.nx ρ) f := nr rfl
@[simp] theorem e_break : sBreak ρ f = .ok (.bk ρ) f := nr rfl
@[simp] theorem e_cont : sCont ρ f = .ok (.ct ρ) f := nr rfl
@[simp] theorem e_no : sNo ρ f = .no := nr rfl
@[simp] theorem e_asg {T : Tgt} : sAsg T a ρ f = dt (a ρ f) fun d f1 => match T.put d ρ with
  | some ρ2 => .ok (.nx ρ2) f1
  | none => .no := nr rfl
@[simp] theorem e_par : sPar i j a b ρ f = dt (a ρ f) fun d f1 => dt (b ρ f1) fun e f2 => .ok (.nx ((ρ.set i (.dat d)).set j (.dat e))) f2 := by
  unfold sPar cArgs cArgs cArgs dt
  cases a ρ f with
  | no => rfl
  | ex => rfl
  | ok rv f1 =>
    simp only [bind_ok]
    cases rv.data with
    | none => rfl
    | some d =>
      simp only
      cases b ρ f1 with
      | no => rfl
      | ex => rfl
      | ok rv f2 =>
        simp only [bind_ok]
        cases rv.data <;> rfl
@[simp] theorem e_par3 {l : Nat} : sPar3 i j l a b c ρ f = dt (a ρ f) fun d f1 => dt (b ρ f1) fun e f2 => dt (c ρ f2) fun h f3 => .ok (.nx (((ρ.set i (.dat d)).set j (.dat e)).set l (.dat h))) f3 := by
  unfold sPar3 cArgs cArgs cArgs cArgs dt
  cases a ρ f with
  | no => rfl
  | ex => rfl
  | ok rv f1 =>
    simp only [bind_ok]
    cases rv.data with
    | none => rfl
    | some d =>
      simp only
      cases b ρ f1 with
      | no => rfl
      | ex => rfl
      | ok rv f2 =>
        simp only [bind_ok]
        cases rv.data with
        | none => rfl
        | some d =>
          simp only
          cases c ρ f2 with
          | no => rfl
          | ex => rfl
          | ok rv f2 =>
            simp only [bind_ok]
            cases rv.data <;> rfl
@[simp] theorem e_pop {T : Tgt} : sPop i T ρ f = match popped i ρ with
  | some (d, ρ1) => match T.put d ρ1 with
    | some ρ2 => .ok (.nx ρ2) f
    | none => .no
  | none => .no := nr rfl
@[simp] theorem e_popD : sPopD i ρ f = match popped i ρ with
  | some (_, ρ1) => .ok (.nx ρ1) f
  | none => .no := nr rfl
@[simp] theorem e_app : sApp i a ρ f = match ρ[i]? with
  | some (.own ds) => dt (a ρ f) fun d f1 => if ds.length < 100000 then .ok (.nx (ρ.set i (.own (ds ++ [d])))) f1 else .no
  | _ => .no := nr rfl
@[simp] theorem e_ext : sExt i a ρ f = match ρ[i]? with
  | some (.own ds) => dt (a ρ f) fun d f1 => match d with
    | .list es => if ds.length + es.length ≤ 100000 then .ok (.nx (ρ.set i (.own (ds ++ es)))) f1 else .no
    | _ => .no
  | _ => .no := nr rfl
@[simp] theorem e_put : sPut i a b ρ f = match ρ[i]? with
  | some (.own ds) => dt (b ρ f) fun d f1 => pk (a ρ f1) fun k f2 => match k with
    | .int k => match ixN ds.length k with
      | some j => .ok (.nx (ρ.set i (.own (ds.set j d)))) f2
      | none => .no
    | _ => .no
  | _ => .no := nr rfl
@[simp] theorem e_frz : sFrz i ρ f = match ρ[i]? with
  | some (.own ds) => .ok (.nx (ρ.set i (.dat (.list ds)))) f
  | _ => .ok (.nx ρ) f := nr rfl
@[simp] theorem e_for {it : Ix} {T : Tgt} : sFor it T s ρ f = (it ρ f).bind fun ds f1 => forN T s ds ρ f1 := nr rfl
@[simp] theorem e_feedS {k : Str} : sFeed k a b ρ f = pk (b ρ f) fun d f1 => (a ρ f1).bind fun rv f2 => match d, rv with
  | .int i, .feed => match f2.put k i with
    | some f3 => .ok (.nx ρ) f3
    | none => .no
  | _, _ => .no := nr rfl
@[simp] theorem e_C {d : PyData} : cC d ρ f = .ok (.dat d) f := nr rfl
@[simp] theorem e_V : cVar i ρ f = match ρ[i]? with
  | some (.dat d) => .ok (.dat d) f
  | some (.own ds) => .ok (.lent i ds) f
  | some .feed => .ok .feed f
  | some (.key ks) => .ok (.dat (.tuple (ks.map .int))) f
  | _ => .no := nr rfl
@[simp] theorem e_Bin {o : Op2} : cBin o a b ρ f = pk (a ρ f) fun x f1 => pk (b ρ f1) fun y f2 => give (o x y) f2 := nr rfl
@[simp] theorem e_Un {o : Op1} : cUn o a ρ f = pk (a ρ f) fun x f1 => give (o x) f1 := nr rfl
@[simp] theorem e_feed {k : Str} : cFeed k a ρ f = (a ρ f).bind fun rv f1 => match rv with
  | .feed => give (f1.get k) f1
  | _ => .no := nr rfl
@[simp] theorem e_And : cAnd a b ρ f = pk (a ρ f) fun d f1 => match d with
  | .bool true => b ρ f1
  | .bool false => .ok (.dat (.bool false)) f1
  | _ => .no := nr rfl
@[simp] theorem e_Or : cOr a b ρ f = pk (a ρ f) fun d f1 => match d with
  | .bool true => .ok (.dat (.bool true)) f1
  | .bool false => b ρ f1
  | _ => .no := nr rfl
@[simp] theorem e_If : cIf t a b ρ f = (t ρ f).bind fun c f1 => if c = true then a ρ f1 else b ρ f1 := nr rfl
@[simp] theorem e_Chain {o o2 : Op2} : cChain o o2 a b c ρ f = pk (a ρ f) fun x f1 => pk (b ρ f1) fun y f2 => match o x y with
  | some (.dat (.bool true)) => pk (c ρ f2) fun z f3 => give (o2 y z) f3
  | some (.dat (.bool false)) => .ok (.dat (.bool false)) f2
  | _ => .no := nr rfl
@[simp] theorem e_T : cT a ρ f = pk (a ρ f) fun d f1 => match d with
  | .bool b => .ok b f1
  | _ => .no := nr rfl
@[simp] theorem e_Yes : cYes ρ f = .ok true f := nr rfl
@[simp] theorem e_tAnd : tAndX t u ρ f = (t ρ f).bind fun b f1 => if b = true then u ρ f1 else .ok false f1 := nr rfl
@[simp] theorem e_tOr : tOrX t u ρ f = (t ρ f).bind fun b f1 => if b = true then .ok true f1 else u ρ f1 := nr rfl
@[simp] theorem e_tNot : tNotX t ρ f = (t ρ f).bind fun b f1 => .ok (!b) f1 := nr rfl
@[simp] theorem e_Args_nil : cArgs [] ρ f = .ok [] f := nr rfl
@[simp] theorem e_Args_cons {xs : List Ex} : cArgs (a :: xs) ρ f = dt (a ρ f) fun d f1 => (cArgs xs ρ f1).bind fun ds f2 => .ok (d :: ds) f2 := nr rfl
@[simp] theorem e_Vals_nil : cVals [] ρ f = .ok [] f := nr rfl
@[simp] theorem e_Vals_cons {xs : List Ex} : cVals (a :: xs) ρ f = (a ρ f).bind fun rv f1 => match toArg rv with
    | some a => (cVals xs ρ f1).bind fun as f2 => .ok (a :: as) f2
    | none => .no := nr rfl
@[simp] theorem e_Call {F : Fn} {xs : List Ex} : cCall F xs ρ f = (cVals xs ρ f).bind fun as f1 => F as f1 := nr rfl
@[simp] theorem e_Tup {xs : List Ex} : cTup xs ρ f = (cArgs xs ρ f).bind fun ds f1 => if ds.length ≤ 100000 then .ok (.dat (.tuple ds)) f1 else .no := nr rfl
@[simp] theorem e_Lst {xs : List Ex} : cLst xs ρ f = (cArgs xs ρ f).bind fun ds f1 => if ds.length ≤ 100000 then .ok (.own ds) f1 else .no := nr rfl
@[simp] theorem e_Lc {it : Ix} {T : Tgt} {vs : List Nat} : cLc it T t a vs ρ f = (it ρ f).bind fun ds f1 => (lcN T t a (wipeR ρ vs) ds [] f1).bind fun ys f2 => .ok (.own ys) f2 := nr rfl
@[simp] theorem e_wipe_nil : wipeR ρ [] = ρ := nr rfl
@[simp] theorem e_wipe_cons {v : Nat} {vs : List Nat} : wipeR ρ (v :: vs) = (wipeR ρ vs).set v .emp := nr rfl
@[simp] theorem e_iSeq : iSeq a ρ f = dt (a ρ f) fun d f1 => match seqOf d with
  | some ds => .ok ds f1
  | none => .no := nr rfl
@[simp] theorem e_iRange1 : iRange1 a ρ f = pk (a ρ f) fun d f1 => match d with
  | .int n => if smallI n = true then .ok (rangeD 0 n.toNat) f1 else .no
  | _ => .no := nr rfl
@[simp] theorem e_iRange2 : iRange2 a b ρ f = pk (a ρ f) fun d f1 => pk (b ρ f1) fun d2 f2 => match d, d2 with
  | .int i, .int j => if (smallI i && smallI j) = true then .ok (rangeD i (j - i).toNat) f2 else .no
  | _, _ => .no := nr rfl
@[simp] theorem e_iDown : iDown a b c ρ f = pk (a ρ f) fun d f1 => pk (b ρ f1) fun d2 f2 => pk (c ρ f2) fun d3 f3 => match d, d2, d3 with
  | .int i, .int j, .int k => if (smallI i && smallI j && decide (k = -1)) = true then .ok (downD i (i - j).toNat) f3 else .no
  | _, _, _ => .no := nr rfl
@[simp] theorem e_iEnum : iEnum a ρ f = dt (a ρ f) fun d f1 => match seqOf d with
  | some ds => .ok (pairsD ds) f1
  | none => .no := nr rfl
@[simp] theorem e_iZip : iZip a b ρ f = dt (a ρ f) fun d f1 => dt (b ρ f1) fun e f2 => match d, e with
  | .list ds, .list es => .ok (zipD ds es) f2
  | .tuple ds, .tuple es => .ok (zipD ds es) f2
  | .tuple ds, .list es => .ok (zipD ds es) f2
  | .list ds, .tuple es => .ok (zipD ds es) f2
  | _, _ => .no := nr rfl
@[simp] theorem e_Sl {lo hi : Option Ex} : cSl a lo hi ρ f = pk (a ρ f) fun x f1 => partX lo ρ f1 fun i f2 => partX hi ρ f2 fun j f3 => give (oSl i j x) f3 := nr rfl
@[simp] theorem e_part_none {k : Option Int → Feed → R RV} : partX none ρ f k = k none f := nr rfl
@[simp] theorem e_part_some {k : Option Int → Feed → R RV} : partX (some a) ρ f k = pk (a ρ f) fun d f1 => match d with
    | .int i => k (some i) f1
    | _ => .no := nr rfl
@[simp] theorem e_slot_dat {d : PyData} : slotOf (.dat d) = some (.dat d) := nr rfl
@[simp] theorem e_slot_own {d : List PyData} : slotOf (.own d) = some (.own d) := nr rfl
@[simp] theorem e_slot_feed : slotOf .feed = some .feed := nr rfl
@[simp] theorem e_arg_dat {d : PyData} : toArg (.dat d) = some (.dat d) := nr rfl
@[simp] theorem e_arg_own {d : List PyData} : toArg (.own d) = some (.dat (.list d)) := nr rfl
@[simp] theorem e_arg_feed : toArg .feed = some .feed := nr rfl
@[simp] theorem e_seqOf_list {xs : List PyData} : seqOf (.list xs) = some xs := nr rfl
@[simp] theorem e_seqOf_tuple {xs : List PyData} : seqOf (.tuple xs) = some xs := nr rfl
@[simp] theorem e_put_one {d : PyData} : (Tgt.one i).put d ρ = some (ρ.set i (.dat d)) := nr rfl
@[simp] theorem e_put_many {l : List Nat} {ds : List PyData} : (Tgt.many l).put (.tuple ds) ρ = if ds.length = l.length then some (setAll l ds ρ) else none := nr rfl
@[simp] theorem e_setAll_nil {l : List Nat} : setAll l [] ρ = ρ := by cases l <;> rfl
@[simp] theorem e_setAll_cons {l : List Nat} {d : PyData} {ds : List PyData} : setAll (i :: l) (d :: ds) ρ = setAll l ds (ρ.set i (.dat d)) := nr rfl
@[simp] theorem e_fnSlot_dat {d : PyData} : fnSlot (.dat d) = .dat d := nr rfl
@[simp] theorem e_fnSlot_feed : fnSlot .feed = .feed := nr rfl
@[simp] theorem e_up_dat {d : PyData} : (RV.dat d).up = .dat d := nr rfl
@[simp] theorem e_up_own {d : List PyData} : (RV.own d).up = .own d := nr rfl
@[simp] theorem e_up_lent {d : List PyData} : (RV.lent i d).up = .own d := nr rfl
@[simp] theorem e_peek_dat {d : PyData} : (RV.dat d).peek = some d := nr rfl
@[simp] theorem e_data_dat {d : PyData} : (RV.dat d).data = some d := nr rfl
@[simp] theorem e_data_own {d : List PyData} : (RV.own d).data = some (.list d) := nr rfl
@[simp] theorem e_ix_tuple {xs : List PyData} {k : Int} : oIx (.tuple xs) (.int k) = (atI xs k).map .dat := nr rfl
@[simp] theorem e_ix_list {xs : List PyData} {k : Int} : oIx (.list xs) (.int k) = (atI xs k).map .dat := nr rfl
@[simp] theorem e_sl_tuple {xs : List PyData} {lo hi : Option Int} : oSl lo hi (.tuple xs) = some (.dat (.tuple (cutD xs lo hi))) := nr rfl
@[simp] theorem e_sl_list {xs : List PyData} {lo hi : Option Int} : oSl lo hi (.list xs) = some (.own (cutD xs lo hi)) := nr rfl
@[simp] theorem e_at0 {α : Type} {x : α} {xs : List α} : atI (x :: xs) 0 = some x := atI_nat (n := 0)
@[simp] theorem e_at1 {α : Type} {x y : α} {xs : List α} : atI (x :: y :: xs) 1 = some y := atI_nat (n := 1)
@[simp] theorem e_at2 {α : Type} {x y z : α} {xs : List α} : atI (x :: y :: z :: xs) 2 = some z := atI_nat (n := 2)
@[simp] theorem e_at3 {α : Type} {x y z w : α} {xs : List α} : atI (x :: y :: z :: w :: xs) 3 = some w := atI_nat (n := 3)
@[simp] theorem give_some_map {o : Option PyData} {g : Feed} : give (o.map .dat) g = match o with
  | some d => .ok (.dat d) g
  | none => .no := by cases o <;> rfl
@[simp] theorem e_gturn {g : Feed} : g.get "turn" = some (.dat (.int g.turn)) := nr rfl
@[simp] theorem e_gat {g : Feed} : g.get "at" = some (.dat (.int g.spot)) := nr rfl
@[simp] theorem e_gleft {g : Feed} : g.get "left" = some (.dat (.int g.left)) := nr rfl
@[simp] theorem e_gcells {g : Feed} : g.get "cells" = some (.dat (.list (g.cells.map .int))) := nr rfl
@[simp] theorem e_pturn {g : Feed} {k : Int} : g.put "turn" k = some { g with turn := k } := nr rfl
@[simp] theorem e_pat {g : Feed} {k : Int} : g.put "at" k = some { g with spot := k } := nr rfl
@[simp] theorem e_pleft {g : Feed} {k : Int} : g.put "left" k = some { g with left := k } := nr rfl
end
def RetP (P : RV → Feed → Prop) : Ctl → Feed → Prop
  | .nx _, f => P (.dat .none) f
  | .rt v, f => P v.up f
  | _, _ => False
@[simp] theorem retP_nx {P : RV → Feed → Prop} {ρ : Rho} {f : Feed} : RetP P (.nx ρ) f ↔ P (.dat .none) f := nri Iff.rfl
@[simp] theorem retP_rt {P : RV → Feed → Prop} {v : RV} {f : Feed} : RetP P (.rt v) f ↔ P v.up f := nri Iff.rfl
theorem ev_dEnd {r : R Ctl} {P : RV → Feed → Prop} : Ev (dEnd r) P ↔ Ev r (RetP P) := by
  cases r with
  | no => exact ⟨fun ⟨_, _, e, _⟩ => (by cases e), fun ⟨_, _, e, _⟩ => (by cases e)⟩
  | ex c v f => exact ⟨fun ⟨_, _, e, _⟩ => (by cases e), fun ⟨_, _, e, _⟩ => (by cases e)⟩
  | ok a f =>
    cases a with
    | nx ρ => exact (ev_ok (a := RV.dat .none)).trans (ev_ok (P := RetP P) (a := Ctl.nx ρ)).symm
    | rt v => exact (ev_ok (a := v.up)).trans (ev_ok (P := RetP P) (a := Ctl.rt v)).symm
    | bk ρ => exact ⟨fun ⟨_, _, e, _⟩ => (by cases e), fun h => (ev_ok.mp h).elim⟩
    | ct ρ => exact ⟨fun ⟨_, _, e, _⟩ => (by cases e), fun h => (ev_ok.mp h).elim⟩
theorem ev_is {α : Type} {r : R α} {v : α} {f : Feed} (h : Ev r fun a g => a = v ∧ g = f) : r = .ok v f := by
  obtain ⟨a, g, e, rfl, rfl⟩ := h
  exact e
theorem Ev.of {α : Type} {r : R α} {v : α} {f : Feed} {P : α → Feed → Prop} (h : r = .ok v f) (p : P v f) : Ev r P := ⟨v, f, h, p⟩
theorem ev_ite {α : Type} {c : Prop} [Decidable c] {r s : R α} {P : α → Feed → Prop} : Ev (if c then r else s) P ↔ (c → Ev r P) ∧ (¬ c → Ev s P) := by
  by_cases h : c
  · rw [if_pos h]
    exact ⟨fun q => ⟨fun _ => q, fun z => absurd h z⟩, fun q => q.1 h⟩
  · rw [if_neg h]
    exact ⟨fun q => ⟨fun z => absurd z h, fun _ => q⟩, fun q => q.2 h⟩
def LoopP (J : Rho → Feed → Prop) (P : Ctl → Feed → Prop) : Ctl → Feed → Prop
  | .nx ρ, f => J ρ f
  | .ct ρ, f => J ρ f
  | .bk ρ, f => P (.nx ρ) f
  | .rt v, f => P (.rt v) f
@[simp] theorem loopP_nx {J : Rho → Feed → Prop} {P : Ctl → Feed → Prop} {ρ : Rho} {f : Feed} : LoopP J P (.nx ρ) f ↔ J ρ f := nri Iff.rfl
@[simp] theorem loopP_ct {J : Rho → Feed → Prop} {P : Ctl → Feed → Prop} {ρ : Rho} {f : Feed} : LoopP J P (.ct ρ) f ↔ J ρ f := nri Iff.rfl
@[simp] theorem loopP_bk {J : Rho → Feed → Prop} {P : Ctl → Feed → Prop} {ρ : Rho} {f : Feed} : LoopP J P (.bk ρ) f ↔ P (.nx ρ) f := nri Iff.rfl
@[simp] theorem loopP_rt {J : Rho → Feed → Prop} {P : Ctl → Feed → Prop} {v : RV} {f : Feed} : LoopP J P (.rt v) f ↔ P (.rt v) f := nri Iff.rfl
theorem ev_forL {T : Tgt} {s : Sm} {P : Ctl → Feed → Prop} (I : List PyData → Rho → Feed → Prop) (hs : ∀ d ds ρ f, I (d :: ds) ρ f → ∃ ρ1, T.put d ρ = some ρ1 ∧ Ev (s ρ1 f) (LoopP (I ds) P)) (he : ∀ ρ f, I [] ρ f → P (.nx ρ) f) :
    ∀ (ds : List PyData) (ρ : Rho) (f : Feed), I ds ρ f → Ev (forN T s ds ρ f) P
  | [], ρ, f, h => ev_ok.mpr (he ρ f h)
  | d :: ds, ρ, f, h => by
    obtain ⟨ρ1, e, c, f1, e2, p⟩ := hs d ds ρ f h
    unfold forN
    rw [e]
    simp only [e2, bind_ok]
    cases c with
    | nx ρ2 => exact ev_forL I hs he ds ρ2 f1 p
    | ct ρ2 => exact ev_forL I hs he ds ρ2 f1 p
    | bk ρ2 => exact ev_ok.mpr p
    | rt v => exact ev_ok.mpr p
/-- by the number of turns done -/
theorem ev_for {T : Tgt} {s : Sm} {P : Ctl → Feed → Prop} (I : Nat → Rho → Feed → Prop) {ds : List PyData} {ρ : Rho} {f : Feed} (h : I 0 ρ f)
    (hs : ∀ i d ρ f, ds[i]? = some d → I i ρ f → ∃ ρ1, T.put d ρ = some ρ1 ∧ Ev (s ρ1 f) (LoopP (I (i + 1)) P)) (he : ∀ ρ f, I ds.length ρ f → P (.nx ρ) f) : Ev (forN T s ds ρ f) P := by
  refine ev_forL (fun r ρ f => ∃ i, ds.drop i = r ∧ i ≤ ds.length ∧ I i ρ f) (fun d r ρ f z => ?_) (fun ρ f z => ?_) ds ρ f ⟨0, rfl, Nat.zero_le _, h⟩
  · obtain ⟨i, e, hi, z⟩ := z
    have g : ds[i]? = some d := by
      rw [← List.head?_drop, e]
      rfl
    have hl : i < ds.length := (List.getElem?_eq_some_iff.mp g).1
    have e2 : ds.drop (i + 1) = r := by
      rw [← List.tail_drop, e]
      rfl
    obtain ⟨ρ1, p, q⟩ := hs i d ρ f g z
    refine ⟨ρ1, p, q.mono fun c f1 w => ?_⟩
    cases c with
    | nx ρ2 => exact ⟨i + 1, e2, hl, w⟩
    | ct ρ2 => exact ⟨i + 1, e2, hl, w⟩
    | bk ρ2 => exact w
    | rt v => exact w
  · obtain ⟨i, e, hi, z⟩ := z
    have : ds.length ≤ i := List.drop_eq_nil_iff.mp e
    have e2 : i = ds.length := by omega
    subst e2
    exact he ρ f z
theorem ev_lc {T : Tgt} {t : Tx} {e : Ex} {ρ : Rho} {P : List PyData → Feed → Prop} (I : Nat → List PyData → Feed → Prop) {ds : List PyData} (hd : ds.length ≤ 100000)
    (hs : ∀ i d acc f, ds[i]? = some d → I i acc f → ∃ ρ1, T.put d ρ = some ρ1 ∧ Ev (t ρ1 f) fun b f1 => (b = true → Ev (e ρ1 f1) fun rv f2 => ∃ y, rv.data = some y ∧ I (i + 1) (acc ++ [y]) f2) ∧ (b = false → I (i + 1) acc f1))
    (he : ∀ acc f, I ds.length acc f → P acc f) {f : Feed} (h : I 0 [] f) : Ev (lcN T t e ρ ds [] f) P := by
  have go : ∀ (r : List PyData) (i : Nat) (acc : List PyData) (f : Feed), ds.drop i = r → i ≤ ds.length → acc.length ≤ i → I i acc f → Ev (lcN T t e ρ r acc f) P := by
    intro r
    induction r with
    | nil =>
      intro i acc f q hi ha z
      have : ds.length ≤ i := List.drop_eq_nil_iff.mp q
      have e2 : i = ds.length := by omega
      subst e2
      exact ev_ok.mpr (he acc f z)
    | cons d r ih =>
      intro i acc f q hi ha z
      have g : ds[i]? = some d := by
        rw [← List.head?_drop, q]
        rfl
      have hl : i < ds.length := (List.getElem?_eq_some_iff.mp g).1
      have e2 : ds.drop (i + 1) = r := by
        rw [← List.tail_drop, q]
        rfl
      obtain ⟨ρ1, p, b, f1, w, w1, w2⟩ := hs i d acc f g z
      unfold lcN
      rw [p]
      simp only [w, noEx_ok2, bind_ok]
      cases b with
      | false =>
        rw [if_neg (by decide)]
        exact ih (i + 1) acc f1 e2 hl (by omega) (w2 rfl)
      | true =>
        rw [if_pos rfl]
        obtain ⟨rv, f2, u, y, u1, u2⟩ := w1 rfl
        rw [u, noEx_ok2]
        unfold dt
        simp only [bind_ok, u1]
        rw [if_pos (by omega)]
        exact ih (i + 1) (acc ++ [y]) f2 e2 hl (by rw [List.length_append]; show acc.length + 1 ≤ i + 1; omega) u2
  exact go ds 0 [] f rfl (Nat.zero_le _) (Nat.le_refl 0) h
/-- nothing is drawn in it -/
theorem lc_pure {τ : Type} {T : Tgt} {t : Tx} {e : Ex} {ρ : Rho} {f : Feed} {xs : List τ} {enc g : τ → PyData} {p : τ → Bool} (hl : xs.length ≤ 100000)
    (h : ∀ x ∈ xs, ∃ ρ1, T.put (enc x) ρ = some ρ1 ∧ t ρ1 f = .ok (p x) f ∧ (p x = true → e ρ1 f = .ok (.dat (g x)) f)) : lcN T t e ρ (xs.map enc) [] f = .ok ((xs.filter p).map g) f := by
  have go : ∀ (r : List τ) (acc : List PyData), acc.length + r.length ≤ 100000 → (∀ x ∈ r, ∃ ρ1, T.put (enc x) ρ = some ρ1 ∧ t ρ1 f = .ok (p x) f ∧ (p x = true → e ρ1 f = .ok (.dat (g x)) f)) → lcN T t e ρ (r.map enc) acc f = .ok (acc ++ (r.filter p).map g) f := by
    intro r
    induction r with
    | nil =>
      intro acc _ _
      show R.ok acc f = _
      rw [List.filter_nil, List.map_nil, List.append_nil]
    | cons x r ih =>
      intro acc hl h
      rw [List.length_cons] at hl
      obtain ⟨ρ1, h1, h2, h3⟩ := h x List.mem_cons_self
      show lcN T t e ρ (enc x :: r.map enc) acc f = _
      unfold lcN
      rw [h1]
      simp only [h2, noEx_ok2, bind_ok]
      cases q : p x with
      | false =>
        rw [if_neg (by decide), ih acc (by omega) fun y hy => h y (List.mem_cons_of_mem _ hy), List.filter_cons_of_neg (by rw [q]; decide)]
      | true =>
        rw [if_pos rfl, h3 q, noEx_ok2, dt_ok_dat, if_pos (by omega), ih (acc ++ [g x]) (by rw [List.length_append]; show acc.length + 1 + r.length ≤ 100000; omega) fun y hy => h y (List.mem_cons_of_mem _ hy), List.filter_cons_of_pos q, List.map_cons, List.append_assoc]
        rfl
  exact go xs [] (by simpa using hl) h
theorem lc_map {τ : Type} {T : Tgt} {e : Ex} {ρ : Rho} {f : Feed} {xs : List τ} {enc g : τ → PyData} (hl : xs.length ≤ 100000)
    (h : ∀ x ∈ xs, ∃ ρ1, T.put (enc x) ρ = some ρ1 ∧ e ρ1 f = .ok (.dat (g x)) f) : lcN T cYes e ρ (xs.map enc) [] f = .ok (xs.map g) f := by
  have := lc_pure (t := cYes) (p := fun _ => true) hl fun x hx => by
    obtain ⟨ρ1, a, b⟩ := h x hx
    exact ⟨ρ1, a, rfl, fun _ => b⟩
  rw [this, List.filter_eq_self.mpr fun _ _ => rfl]
theorem whileN_more {t : Tx} {s : Sm} {n m : Nat} {ρ : Rho} {f g : Feed} {c : Ctl} (h : n ≤ m) (e : whileN t s n ρ f = .ok c g) : whileN t s m ρ f = .ok c g := by
  have q := whileN_add (show whileN t s n ρ f ≠ .no by rw [e]; exact fun z => by cases z) (m - n)
  rw [show n + (m - n) = m by omega, e] at q
  exact q
theorem sWhile_is {t : Tx} {s : Sm} {n : Nat} {ρ : Rho} {f g : Feed} {c : Ctl} (e : whileN t s n ρ f = .ok c g) : sWhile t s ρ f = .ok c g := sWhile_eq e fun z => by cases z
theorem ev_while {t : Tx} {s : Sm} {P : Ctl → Feed → Prop} (I : Nat → Rho → Feed → Prop)
    (hs : ∀ n ρ f, I n ρ f → Ev (t ρ f) fun b f1 => (b = true → Ev (s ρ f1) (LoopP (fun ρ2 f2 => ∃ m, m < n ∧ I m ρ2 f2) P)) ∧ (b = false → P (.nx ρ) f1)) {n : Nat} {ρ : Rho} {f : Feed} (h : I n ρ f) : Ev (sWhile t s ρ f) P := by
  have go : ∀ n ρ f, I n ρ f → ∃ c f2, whileN t s (n + 1) ρ f = .ok c f2 ∧ P c f2 := by
    intro n
    induction n using Nat.strongRecOn with
    | ind n ih =>
      intro ρ f h
      obtain ⟨b, f1, e, p, q⟩ := hs n ρ f h
      unfold whileN
      rw [e]
      simp only [bind_ok]
      cases b with
      | false =>
        rw [if_neg (by decide)]
        exact ⟨_, _, rfl, q rfl⟩
      | true =>
        rw [if_pos rfl]
        obtain ⟨c, f2, e2, w⟩ := p rfl
        simp only [e2, bind_ok]
        cases c with
        | bk ρ2 => exact ⟨_, _, rfl, w⟩
        | rt v => exact ⟨_, _, rfl, w⟩
        | nx ρ2 =>
          obtain ⟨m, hm, z⟩ := w
          obtain ⟨c3, f3, e3, p3⟩ := ih m hm ρ2 f2 z
          exact ⟨c3, f3, (whileN_more (by omega) e3), p3⟩
        | ct ρ2 =>
          obtain ⟨m, hm, z⟩ := w
          obtain ⟨c3, f3, e3, p3⟩ := ih m hm ρ2 f2 z
          exact ⟨c3, f3, (whileN_more (by omega) e3), p3⟩
  obtain ⟨c, f2, e, p⟩ := go n ρ f h
  exact ⟨c, f2, sWhile_is e, p⟩
end Dn
namespace Dn
open PySem PySem.Spec L2
section
variable {α β : Type} {ρ : Rho} {f : Feed} {i j : Nat} {x : Ex} {su : Sm} {names : List Str} {c : Str} {vs : List (Str × PyData)}
@[simp] theorem e_raise {fs : List Str} {xs : List Ex} : sRaise c fs xs ρ f = (cArgs xs ρ f).bind fun ds f1 => if ds.length = fs.length ∧ fs.length ≤ 900 then .ex c (fs.zip ds).reverse f1 else .no := nr rfl
@[simp] theorem bind_ex {k : α → Feed → R β} : (R.ex c vs f).bind k = .ex c vs f := nr rfl
@[simp] theorem dt_ex {k : PyData → Feed → R β} : dt (R.ex c vs f) k = .ex c vs f := nr rfl
@[simp] theorem pk_ex {k : PyData → Feed → R β} : pk (R.ex c vs f) k = .ex c vs f := nr rfl
def tryOn (i : Nat) (ρ : Rho) (h : Str → List (Str × PyData) → Feed → R Ctl) : R RV → R Ctl
  | .no => .no
  | .ok rv f1 => match slotOf rv with
    | some s => .ok (.nx (ρ.set i s)) f1
    | none => .no
  | .ex c vs f1 => h c vs f1
def tryRet (h : Str → List (Str × PyData) → Feed → R Ctl) : R RV → R Ctl
  | .no => .no
  | .ok rv f1 => .ok (.rt rv) f1
  | .ex c vs f1 => h c vs f1
@[simp] theorem e_tryS0 : sTryS0 i x names su ρ f = tryOn i ρ (fun c _ f1 => if names.contains c then noEx (su ρ f1) else .no) (x ρ f) := by
  unfold sTryS0 tryOn
  cases x ρ f <;> rfl
@[simp] theorem e_tryS : sTryS i j x names su ρ f = tryOn i ρ (fun c vs f1 => if names.contains c then drp j (noEx (su (ρ.set j (.dat (excD c vs))) f1)) else .no) (x ρ f) := by
  unfold sTryS tryOn caught
  cases x ρ f <;> rfl
@[simp] theorem e_tryR : sTryR j x names su ρ f = tryRet (fun c vs f1 => if names.contains c then drp j (noEx (su (ρ.set j (.dat (excD c vs))) f1)) else .no) (x ρ f) := by
  unfold sTryR tryRet caught
  cases x ρ f <;> rfl
variable {h : Str → List (Str × PyData) → Feed → R Ctl}
@[simp] theorem on_dat {d : PyData} : tryOn i ρ h (.ok (.dat d) f) = .ok (.nx (ρ.set i (.dat d))) f := nr rfl
@[simp] theorem on_own {d : List PyData} : tryOn i ρ h (.ok (.own d) f) = .ok (.nx (ρ.set i (.own d))) f := nr rfl
@[simp] theorem on_ex : tryOn i ρ h (.ex c vs f) = h c vs f := nr rfl
@[simp] theorem ret_ok {rv : RV} : tryRet h (.ok rv f) = .ok (.rt rv) f := nr rfl
@[simp] theorem ret_ex : tryRet h (.ex c vs f) = h c vs f := nr rfl
@[simp] theorem noEx_ok' {a : α} : noEx (.ok a f) = .ok a f := nr rfl
@[simp] theorem drp_nx : drp j (.ok (.nx ρ) f) = .ok (.nx (ρ.set j .emp)) f := nr rfl
@[simp] theorem drp_rt {v : RV} : drp j (.ok (.rt v) f) = .ok (.rt v) f := nr rfl
@[simp] theorem end_nx : dEndX (.ok (.nx ρ) f) = .ok (.dat .none) f := nr rfl
@[simp] theorem end_rt {v : RV} : dEndX (.ok (.rt v) f) = .ok v.up f := nr rfl
@[simp] theorem end_ex : dEndX (.ex c vs f) = .ex c vs f := nr rfl
@[simp] theorem e_excNm {r : List (PyData × PyData)} : excNm (.dict ((.none, .str c) :: r)) = if errNames.contains c then some c else none := nr rfl
@[simp] theorem e_excD : excD c vs = .dict ((.none, .str c) :: vs.map fun p => (.str p.1, p.2)) := nr rfl
end
end Dn
namespace Dn
open PySem PySem.Spec L2
def sUnl (l : List Nat) (e : Ex) : Sm := fun ρ f => dt (e ρ f) fun d f1 => match d with
  | .list ds => if ds.length = l.length then .ok (.nx (setAll l ds ρ)) f1 else .no
  | _ => .no
def unlT (K : PySem.W.Frag) (l : List Nat) : TG := gUnl K l.length (gAll l)
section
variable {X : Cx} {E : XK} {e : Expr} {x : Ex} {pos : Pos} {l : List Nat} {es : List Expr}
theorem dg_unl {k : Nat} (hc : X.calm = true) (h : PGs X es (gAll l)) (hn : (assignEach es X.env).length = l.length := by rfl) (hst : (assignEach es X.env).findIdx? (·.1) = none := by rfl) : PG X (.Tuple es k pos) (unlT X.K l) := pg_unl hc h hn hst
theorem ds_unl {tg : Expr} (he : DE X (fun _ => E) e x) (hg : PG X tg (unlT X.K l)) (hs : swapsWithSole [tg] e pos.line X.env = pure false := by rfl) (hw : swappedStores [tg] e X.env = pure none := by rfl)
    (h1 : (assignEach [tg] X.env).map (·.2) = [assign tg X.env] := by rfl) : DS X E (.Assign [tg] e pos) (sUnl l x) := ps_mono (ps_asg he hg hs hw h1) fun D σ H ⟨g, HF, ρ, f, rel, q⟩ =>
  tD_Sdt rel q fun d f1 v G GF r1 s1 dr q1 => by
    cases d <;> try exact (show False from q1).elim
    rename_i ds
    by_cases c : ds.length = l.length
    · simp only [c, if_true] at q1
      cases dr with
      | lst h1 h2 => exact ⟨_, _, rfl, .inl (.inl (r1.sub _ _ h1)), h2.length.trans c, all_put c r1 h2 fun σ2 r2 => (show FinS X.K g D (.nx (setAll l ds _)) f1 from q1) σ2 G GF r2⟩
    · simp only [c, if_false] at q1
      exact (show False from q1).elim
@[simp] theorem e_unl {ρ : Rho} {f : Feed} : sUnl l x ρ f = dt (x ρ f) fun d f1 => match d with
  | .list ds => if ds.length = l.length then .ok (.nx (setAll l ds ρ)) f1 else .no
  | _ => .no := nr rfl
end
end Dn
namespace Dn
open PySem PySem.Spec L2
/-- two names at once, of which one may be given a list that is to grow -/
def sParO (i j : Nat) (a b : Ex) : Sm := fun ρ f => (a ρ f).bind fun rv f1 => (b ρ f1).bind fun rw f2 => match slotOf rv, slotOf rw with
  | some s, some t => .ok (.nx ((ρ.set i s).set j t)) f2
  | _, _ => .no
section
variable {X : Cx} {E : XK} {pos : Pos}
@[simp] theorem e_parO {i j : Nat} {a b : Ex} {ρ : Rho} {f : Feed} : sParO i j a b ρ f = (a ρ f).bind fun rv f1 => (b ρ f1).bind fun rw f2 => match slotOf rv, slotOf rw with
  | some s, some t => .ok (.nx ((ρ.set i s).set j t)) f2
  | _, _ => .no := nr rfl
end
section
variable {X : Cx} {W : Wish} {a b : Expr} {fa fb : Ex} {pos : Pos}
end
end Dn
namespace HT
open PySem PySem.Spec PyProof.Rows
section
variable {prog : Program} {w : World} {A : Around} {E : Value → Shared → Prop} {s : Shared}
end
end HT
namespace Dn
open PySem PySem.Spec L2 PyProof.Rows
section
variable {X : Cx}
def oRevT : Op1
  | .tuple xs => some (.dat (.tuple xs.reverse))
  | _ => none
@[simp] theorem oRevT_tuple {xs : List PyData} : oRevT (.tuple xs) = some (.dat (.tuple xs.reverse)) := nr rfl
end
def oLstRg : Op1
  | .int n => if 0 ≤ n ∧ n ≤ 100000 then some (.own (rangeD 0 n.toNat)) else none
  | _ => none
section
variable {X : Cx} {W : Wish} {a : Expr} {fa : Ex} {p p2 pos pos2 : Pos}
end
@[simp] theorem oLstRg_int {n : Int} : oLstRg (.int n) = if 0 ≤ n ∧ n ≤ 100000 then some (.own (rangeD 0 n.toNat)) else none := nr rfl
end Dn
section
set_option maxHeartbeats 4000000
namespace TI
open PySem PySem.W PySem.Calls PyProof.Rows Builtin
section
variable {M : Model} {A : Around} {E : Value → Shared → Prop} {s : Shared}
/-- the first item of each, none of an empty one -/
inductive Firsts : List (List Int) → List (Option Value) → Prop
  | nil : Firsts [] []
  | no {ks os} : Firsts ks os → Firsts ([] :: ks) (none :: os)
  | yes {n : Int} {ns : List Int} {t : Tok} {ks os} : Firsts ks os → Firsts ((n :: ns) :: ks) (some (.int n t) :: os)
theorem Firsts.len : ∀ {ks os}, Firsts ks os → os.length = ks.length
  | _, _, .nil => rfl
  | _, _, .no h => congrArg (· + 1) h.len
  | _, _, .yes h => congrArg (· + 1) h.len
theorem Firsts.all : ∀ {ks os}, Firsts ks os → os.all (·.isSome) = true → ∀ f ∈ os.filterMap id, ∃ n t, f = Value.int n t
  | _, _, .nil, _, f, hf => by simp at hf
  | _, _, .no h, e, f, hf => by simp at e
  | _, _, .yes (n := n) (t := t) h, e, f, hf => by
    rw [List.all_cons, Option.isSome_some, Bool.true_and] at e
    rw [List.filterMap_cons] at hf
    simp only [_root_.id] at hf
    rcases List.mem_cons.mp hf with rfl | hf
    · exact ⟨_, _, rfl⟩
    · exact h.all e f hf
end
section
variable {prog : Program} {w : World} {A : Around} {E : Value → Shared → Prop} {s : Shared}
end
end TI
namespace L2
open PySem PySem.Spec PyProof.Rows
section
variable {X : Cx}
end
end L2
namespace Dn
open PySem PySem.Spec L2
def lexLe (a b : List Int) : Bool := !HT.lexLt b a
theorem lexLe_total (a b : List Int) : (lexLe a b || lexLe b a) = true := by
  unfold lexLe
  cases h : HT.lexLt b a with
  | false => rfl
  | true => rw [NtL.lex_asym b a h]; rfl
theorem lexLe_trans (a b c : List Int) (h1 : lexLe a b = true) (h2 : lexLe b c = true) : lexLe a c = true := by
  unfold lexLe at *
  rw [NtL.lex_tr a b c (by simpa using h1) (by simpa using h2)]
  rfl
theorem lex_eq : ∀ {a b : List Int}, HT.lexLt a b = false → HT.lexLt b a = false → a = b
  | [], [], _, _ => rfl
  | [], y :: ys, h, _ => by rw [HT.lexLt_nil_cons] at h; cases h
  | x :: xs, [], _, h => by rw [HT.lexLt_nil_cons] at h; cases h
  | x :: xs, y :: ys, h1, h2 => by
    rw [HT.lexLt_cons] at h1 h2
    by_cases e : x = y
    · subst e
      rw [if_pos rfl] at h1 h2
      rw [lex_eq h1 h2]
    · rw [if_neg e] at h1
      rw [if_neg (fun q => e q.symm)] at h2
      have a := of_decide_eq_false h1
      have b := of_decide_eq_false h2
      omega
def Srt (l : List (List Int)) : Prop := l.Pairwise fun p q => HT.lexLt q p = false
theorem srt_uniq : ∀ {l m : List (List Int)}, Srt l → Srt m → l.Perm m → l = m
  | [], m, _, _, h => (List.Perm.eq_nil h.symm).symm
  | x :: l, [], _, _, h => absurd h.length_eq (by simp)
  | x :: l, y :: m, hl, hm, h => by
    have h1 : HT.lexLt x y = false := by
      rcases List.mem_cons.mp (h.mem_iff.mp (List.mem_cons_self (a := x) (l := l))) with e | hx
      · rw [e]
        exact (NtL.swo_lexL (α := List Int) id).refl y
      · exact (List.pairwise_cons.mp hm).1 x hx
    have h2 : HT.lexLt y x = false := by
      rcases List.mem_cons.mp (h.mem_iff.mpr (List.mem_cons_self (a := y) (l := m))) with e | hy
      · rw [e]
        exact (NtL.swo_lexL (α := List Int) id).refl x
      · exact (List.pairwise_cons.mp hl).1 y hy
    have e := lex_eq h1 h2
    subst e
    rw [srt_uniq (List.pairwise_cons.mp hl).2 (List.pairwise_cons.mp hm).2 h.cons_inv]
def sortL (l : List (List Int)) : List (List Int) := l.mergeSort lexLe
theorem sortL_perm (l : List (List Int)) : (sortL l).Perm l := List.mergeSort_perm l lexLe
theorem sortL_srt (l : List (List Int)) : Srt (sortL l) := by
  have h := List.pairwise_mergeSort (le := lexLe) (fun a b c => lexLe_trans a b c) (fun a b => lexLe_total a b) l
  exact h.imp fun {a b} q => by
    unfold lexLe at q
    simpa using q
/-- a sorted list of the same items is what sorted tells -/
theorem sortL_is {l m : List (List Int)} (h : Srt m) (p : m.Perm l) : sortL l = m := srt_uniq (sortL_srt l) h ((sortL_perm l).trans p.symm)
def tupsOf : List PyData → Option (List (List Int))
  | [] => some []
  | .tuple xs :: r => match intsOf xs, tupsOf r with
    | some ns, some ks => some (ns :: ks)
    | _, _ => none
  | _ :: _ => none
abbrev tupI (ns : List Int) : PyData := .tuple (ns.map PyData.int)
theorem intsOf_map : ∀ ns : List Int, intsOf (ns.map PyData.int) = some ns
  | [] => rfl
  | n :: r => by
    rw [List.map_cons]
    unfold intsOf
    rw [intsOf_map r]
    rfl
theorem tupsOf_map : ∀ ks : List (List Int), tupsOf (ks.map tupI) = some ks
  | [] => rfl
  | k :: r => by
    rw [List.map_cons]
    unfold tupsOf
    rw [intsOf_map k, tupsOf_map r]
def oSortT : Op1
  | .list ds => match tupsOf ds with
    | some ks => some (.own ((sortL ks).map tupI))
    | none => none
  | _ => none
@[simp] theorem oSortT_list {ks : List (List Int)} : oSortT (.list (ks.map tupI)) = some (.own ((sortL ks).map tupI)) := by
  show (match tupsOf (ks.map tupI) with
    | some ks => some (RV.own ((sortL ks).map tupI))
    | none => none) = _
  rw [tupsOf_map]
end Dn
namespace L2
open PySem PySem.Spec PyProof.Rows
end L2
namespace Dn
open PySem PySem.Spec L2
end Dn
end
section
set_option maxHeartbeats 4000000
namespace Dn
open PySem PySem.Spec L2
mutual
def bare : PyData → Bool
  | .list xs => bareAll xs
  | .tuple xs => bareAll xs
  | .dict kvs => bareKv kvs
  | _ => true
def bareAll : List PyData → Bool
  | [] => true
  | x :: xs => bare x && bareAll xs
def bareKv : List (PyData × PyData) → Bool
  | [] => true
  | (k, v) :: r => bareKey k && bare v && bareKv r
def bareKey : PyData → Bool
  | .int _ => true
  | .str _ => true
  | _ => false
end
structure Rp (P : Program) (w : World) (h : Heap) (u : Value) (d : PyData) : Prop where
  ok : ∃ as bs, Reads h u d as ∧ ReadAtMost h d.depth bs ∧ ReprK P w bs h d.depth u d.shown
structure RpAll (P : Program) (w : World) (h : Heap) (us : List Value) (ds : List PyData) : Prop where
  ok : ∃ as bs, ReadsAll h us ds as ∧ ReadAtMost h (PyData.depthAll ds) bs ∧ ReprAllK P w bs h (PyData.depthAll ds) us (PyData.shownAll ds)
theorem read_up {h : Heap} {n m : Nat} {bs : List Addr} (q : ReadAtMost h n bs) (l : n ≤ m) : ReadAtMost h m bs := fun b hb => by
  obtain ⟨d, as, r, k⟩ := q b hb
  exact ⟨d, as, r, by omega⟩
theorem read_or {h : Heap} {n : Nat} {bs cs : List Addr} (q : ReadAtMost h n bs) (r : ReadAtMost h n cs) : ReadAtMost h n (bs ++ cs) := fun b hb => by
  rcases List.mem_append.mp hb with hb | hb
  · exact q b hb
  · exact r b hb
theorem read_one {h : Heap} {a : Addr} {d : PyData} {as bs : List Addr} {n : Nat} (r : Reads h (.ref a) d as) (l : n ≤ d.depth) (q : ReadAtMost h n bs) : ReadAtMost h d.depth (a :: bs) := fun b hb => by
  rcases List.mem_cons.mp hb with e | hb
  · exact ⟨d, as, e ▸ r, Nat.le_refl _⟩
  · exact read_up q l b hb
theorem read_not {h : Heap} {a : Addr} {d : PyData} {as bs : List Addr} {n : Nat} (r : Reads h (.ref a) d as) (l : n < d.depth) (q : ReadAtMost h n bs) : a ∉ bs := fun hm => by
  obtain ⟨e, cs, r2, k⟩ := q a hm
  have := (PyProof.Rows.reads_det (fun _ _ z _ => z) r r2).1
  rw [this] at k
  omega
section
variable {X : Cx} {pins : List (Addr × Obj)} {σ : St} {H : Hp} {s : Shared}
theorem pairs_kv {P : Program} {w : World} : ∀ {es : List DictEntry} {vs : List (Key × Value)}, Pairs (mixKind P w) es vs → Vals (vs.map fun p => kV p.1) (es.map (·.key)) ∧ es.map (·.val) = vs.map (·.2)
  | _, _, .nil => ⟨.nil, rfl⟩
  | _, _, .cons (e := e) (kv := kv) h1 h2 r => by
    obtain ⟨k1, k2⟩ := pairs_kv r
    refine ⟨.cons ?_ k1, by rw [List.map_cons, List.map_cons, h2, k2]⟩
    show RelV (kV kv.1) e.key
    rcases keyIs_shape (show keyIs kv.1 e.key = true from h1) with ⟨i, t, ek, ev⟩ | ⟨z, t, ek, ev⟩
    · rw [ek, ev]
      exact ⟨t, rfl⟩
    · rw [ek, ev]
      exact ⟨t, rfl⟩
theorem kv_vals : ∀ {xs : List (Key × V)} {vs : List (Key × Value)}, KV xs vs → Vals (xs.map (·.2)) (vs.map (·.2))
  | _, _, .nil => .nil
  | _, _, .cons h r => .cons h.2 (kv_vals r)
/-- a dict as it lies there -/
theorem dict_at (I : Inv X pins σ H s) {a : Addr} {ks : List (PyData × PyData)} (d : DR X.K H (.ref a) (.dict ks)) (nb : bareKv ks = true) : (a == sysModules) = false ∧ ∃ o es n, s.heap.get? a = some o ∧ o.cls = .type "dict" ∧ o.data = .dict es n ∧
    ∃ vk vv, Vals vk (es.toList.map (·.key)) ∧ DRs X.K H vk (ks.map (·.1)) ∧ Vals vv (es.toList.map (·.val)) ∧ DRs X.K H vv (ks.map (·.2)) := by
  cases d with
  | @dic _ xs _ e k r =>
    obtain ⟨hz, h2, vs, kv, o, es, ep, h3, h4, h5, _, h6, _⟩ := dk_of I.hok e
    obtain ⟨q1, q2⟩ := pairs_kv h6
    refine ⟨h2, o, es, ep, h3, h4.1, h5, vs.map (fun p => kV p.1), xs.map (·.2), q1, ?_, by rw [q2]; exact kv_vals kv, r⟩
    have e2 : (vs.map fun p => kV p.1) = xs.map fun p => kV p.1 := by
      have := congrArg (List.map kV) kv.keys
      rw [List.map_map, List.map_map] at this
      exact this.symm
    rw [e2, k]
    clear hz e k r kv h6 q1 q2 e2
    induction xs with
    | nil => exact .nil
    | cons x xs ih =>
      refine .cons ?_ ih
      obtain ⟨x1, x2⟩ := x
      cases x1 with
      | inl i => exact .int i
      | inr z => exact .str z
  | exc h1 h2 h3 h4 => simp [bareKv, bareKey] at nb
  | dit h1 h2 h3 => simp [bareKv, bareKey] at nb
theorem keys_rp {K : PySem.W.Frag} (P : Program) (w : World) (h : Heap) : ∀ {ks : List (PyData × PyData)} {vk : List V} {us : List Value}, DRs K H vk (ks.map (·.1)) → Vals vk us → bareKv ks = true → PyData.showableAll (ks.map (·.1)) = true → (∀ t ∈ PyData.shownAll (ks.map (·.1)), t.length ≤ sizeLine) → RpAll P w h us (ks.map (·.1))
  | [], _, _, d, r, _, _, _ => by
    cases d
    cases r
    exact ⟨[], [], ReadsAll.nil, (fun _ z => nomatch z), by simp only [List.map_nil, PyData.shownAll]; exact .nil⟩
  | (k, v) :: ks, _, us, d, r, nb, sh, z => by
    cases d with
    | cons h1 h2 =>
      cases r with
      | cons r1 r2 =>
        have n2 : (bareKey k = true ∧ bare v = true) ∧ bareKv ks = true := by simpa [bareKv] using nb
        have s2 : k.showable = true ∧ PyData.showableAll (ks.map (·.1)) = true := by simpa [PyData.showableAll] using sh
        have zk : k.shown.length ≤ sizeLine := z _ (by simp only [List.map_cons, PyData.shownAll]; exact List.mem_cons_self)
        obtain ⟨as, bs, q1, q2, q3⟩ := (keys_rp P w h h2 r2 n2.2 s2.2 fun t ht => z t (by simp only [List.map_cons, PyData.shownAll]; exact List.mem_cons_of_mem _ ht)).ok
        rename_i u0 _
        have one : Rp P w h u0 k := by
          cases k <;> try (simp [bareKey] at n2; done)
          · cases h1
            obtain ⟨t, rfl⟩ := r1
            exact ⟨[], [], Reads.int _ t, (fun _ z => nomatch z), by simp only [PyData.shown]; exact .of_is (ReprIs.int t (by simpa [PyData.showable] using s2.1)) _ _ _⟩
          · cases h1
            obtain ⟨t, rfl⟩ := r1
            exact ⟨[], [], Reads.str _ t, (fun _ z => nomatch z), by simp only [PyData.shown]; exact .of_is (ReprIs.str _ t (by simpa only [PyData.shown] using zk)) _ _ _⟩
        obtain ⟨cs, es, k1, k2, k3⟩ := one.ok
        refine ⟨cs ++ as, es ++ bs, ReadsAll.cons k1 q1, ?_, ?_⟩
        · simp only [List.map_cons, PyData.depthAll]
          exact read_or (read_up k2 (by omega)) (read_up q2 (by omega))
        · simp only [List.map_cons, PyData.depthAll, PyData.shownAll]
          refine .cons ((k3.more fun b hb => List.mem_append_left _ hb).level_le (by omega)) (q3.more_le (fun b hb => List.mem_append_right _ hb) (by omega))
mutual
theorem DR.rp (I : Inv X pins σ H s) : ∀ (d : PyData) (v : V) (u : Value), DR X.K H v d → RelV v u → bare d = true → d.showable = true → d.shown.length ≤ sizeLine → Rp X.prog X.w s.heap u d
  | .none, v, u, h, r, _, _, _ => by
    cases h
    cases r
    exact ⟨[], [], Reads.none, (fun _ z => nomatch z), by simp only [PyData.shown]; exact .of_is ReprIs.none _ _ _⟩
  | .bool b, v, u, h, r, _, _, _ => by
    cases h
    cases r
    exact ⟨[], [], Reads.bool b, (fun _ z => nomatch z), by simp only [PyData.shown]; exact .of_is (ReprIs.bool b) _ _ _⟩
  | .int i, v, u, h, r, _, sh, _ => by
    cases h
    obtain ⟨t, rfl⟩ := r
    exact ⟨[], [], Reads.int i t, (fun _ z => nomatch z), by simp only [PyData.shown]; exact .of_is (ReprIs.int t (by simpa [PyData.showable] using sh)) _ _ _⟩
  | .str x, v, u, h, r, _, _, z => by
    cases h
    obtain ⟨t, rfl⟩ := r
    exact ⟨[], [], Reads.str x t, (fun _ z => nomatch z), by simp only [PyData.shown]; exact .of_is (ReprIs.str x t (by simpa only [PyData.shown] using z)) _ _ _⟩
  | .list ds, v, u, h, r, nb, sh, z => by
    cases h with
    | lst h1 h2 =>
      rename_i a xs
      cases r
      obtain ⟨its, rv, ⟨o, n, ho, hc, _, hd⟩, _⟩ := I.list (.inl (.inl h1) : SqL X.K H a xs)
      have z2 : (listText (PyData.shownAll ds)).length ≤ sizeLine := by simpa only [PyData.shown] using z
      obtain ⟨as, bs, q1, q2, q3⟩ := (DRs.rp I ds xs its h2 rv (by simpa [bare] using nb) (by simpa [PyData.showable] using sh) fun t ht => Nat.le_trans (listText_mem_le ht) z2).ok
      have rd : Reads s.heap (.ref a) (.list ds) (a :: as) := Reads.list ho hc hd q1
      have na : a ∉ bs := read_not rd (by simp only [PyData.depth]; omega) q2
      refine ⟨a :: as, a :: bs, rd, read_one rd (by simp only [PyData.depth]; omega) q2, ?_⟩
      simp only [PyData.depth, PyData.shown]
      cases its with
      | nil =>
        cases q1
        simp only [PyData.shownAll, listText_nil]
        exact ReprK.listEmpty ho hc hd
      | cons x l => exact ReprK.list ho hc hd na (by simpa using q3.length_eq) fun i y e => q3.item i y (by simpa using e)
  | .tuple ds, v, u, h, r, nb, sh, z => by
    cases h with
    | tup h1 h2 =>
      rename_i a xs
      cases r
      obtain ⟨its, rv, ⟨o, ho, hc, n, hd⟩, _⟩ := I.tuple h1
      have z2 : (tupleText (PyData.shownAll ds)).length ≤ sizeLine := by simpa only [PyData.shown] using z
      obtain ⟨as, bs, q1, q2, q3⟩ := (DRs.rp I ds xs its h2 rv (by simpa [bare] using nb) (by simpa [PyData.showable] using sh) fun t ht => Nat.le_trans (tupleText_mem_le ht) z2).ok
      have rd : Reads s.heap (.ref a) (.tuple ds) as := Reads.tuple ho hc hd q1
      have na : a ∉ bs := read_not rd (by simp only [PyData.depth]; omega) q2
      refine ⟨as, a :: bs, rd, read_one rd (by simp only [PyData.depth]; omega) q2, ?_⟩
      simp only [PyData.depth, PyData.shown]
      exact ReprK.tuple ho hc hd na q3
  | .dict ks, v, u, h, r, nb, sh, z => by
    have nb2 : bareKv ks = true := by simpa [bare] using nb
    have ha : ∃ a, v = .ref a := by cases h <;> exact ⟨_, rfl⟩
    obtain ⟨a, rfl⟩ := ha
    cases r
    obtain ⟨e1, o, es, n, e2, e3, e4, vk, vv, q1, q2, q3, q4⟩ := dict_at I h nb2
    obtain ⟨hs1, hs2⟩ := PyData.showableKv_split ks (by simpa [PyData.showable] using sh)
    have z2 : (dictText (PyData.shownKv ks)).length ≤ sizeLine := by simpa only [PyData.shown] using z
    obtain ⟨as, bs, y1, y2, y3⟩ := (keys_rp X.prog X.w s.heap q2 q1 nb2 hs1 fun t ht => let ⟨p, hp, hl⟩ := PyData.shownKv_key_le ks t ht; Nat.le_trans hl (Nat.le_trans (dictText_mem_le hp) z2)).ok
    obtain ⟨cs, ds, x1, x2, x3⟩ := (DRk.rp I ks vv _ q4 q3 nb2 hs2 fun t ht => let ⟨p, hp, hl⟩ := PyData.shownKv_val_le ks t ht; Nat.le_trans hl (Nat.le_trans (dictText_mem_le hp) z2)).ok
    have rd : Reads s.heap (.ref a) (.dict ks) (a :: as ++ cs) := Reads.dict e2 e3 e4 y1 x1
    have hb : ReadAtMost s.heap (PyData.depthKv ks) (bs ++ ds) := read_or (read_up y2 (PyData.depthAll_keys_le ks)) (read_up x2 (PyData.depthAll_vals_le ks))
    have na : a ∉ bs ++ ds := read_not rd (by simp only [PyData.depth]; omega) hb
    refine ⟨_, a :: (bs ++ ds), rd, read_one rd (by simp only [PyData.depth]; omega) hb, ?_⟩
    simp only [PyData.depth, PyData.shown, PyData.shownKv_eq]
    exact ReprK.dict e2 e3 e4 e1 na (ReprEntriesK.of_two es.toList _ _ (y3.more_le (fun b hb => List.mem_append_left _ hb) (PyData.depthAll_keys_le ks)) (x3.more_le (fun b hb => List.mem_append_right _ hb) (PyData.depthAll_vals_le ks)))
theorem DRs.rp (I : Inv X pins σ H s) : ∀ (ds : List PyData) (vs : List V) (us : List Value), DRs X.K H vs ds → Vals vs us → bareAll ds = true → PyData.showableAll ds = true → (∀ t ∈ PyData.shownAll ds, t.length ≤ sizeLine) → RpAll X.prog X.w s.heap us ds
  | [], _, _, h, r, _, _, _ => by
    cases h
    cases r
    exact ⟨[], [], ReadsAll.nil, (fun _ z => nomatch z), by simp only [PyData.shownAll]; exact .nil⟩
  | d :: ds, _, _, h, r, nb, sh, z => by
    cases h with
    | cons h1 h2 =>
      cases r with
      | cons r1 r2 =>
        have n2 : bare d = true ∧ bareAll ds = true := by simpa [bareAll] using nb
        have s2 : d.showable = true ∧ PyData.showableAll ds = true := by simpa [PyData.showableAll] using sh
        obtain ⟨as, bs, q1, q2, q3⟩ := (DR.rp I d _ _ h1 r1 n2.1 s2.1 (z _ (by simp only [PyData.shownAll]; exact List.mem_cons_self))).ok
        obtain ⟨cs, es, k1, k2, k3⟩ := (DRs.rp I ds _ _ h2 r2 n2.2 s2.2 fun t ht => z t (by simp only [PyData.shownAll]; exact List.mem_cons_of_mem _ ht)).ok
        refine ⟨as ++ cs, bs ++ es, ReadsAll.cons q1 k1, ?_, ?_⟩
        · simp only [PyData.depthAll]
          exact read_or (read_up q2 (by omega)) (read_up k2 (by omega))
        · simp only [PyData.depthAll, PyData.shownAll]
          refine .cons ((q3.more fun b hb => List.mem_append_left _ hb).level_le (by omega)) (k3.more_le (fun b hb => List.mem_append_right _ hb) (by omega))
theorem DRk.rp (I : Inv X pins σ H s) : ∀ (ds : List (PyData × PyData)) (vs : List V) (us : List Value), DRs X.K H vs (ds.map (·.2)) → Vals vs us → bareKv ds = true → PyData.showableAll (ds.map (·.2)) = true → (∀ t ∈ PyData.shownAll (ds.map (·.2)), t.length ≤ sizeLine) → RpAll X.prog X.w s.heap us (ds.map (·.2))
  | [], _, _, h, r, _, _, _ => by
    cases h
    cases r
    exact ⟨[], [], ReadsAll.nil, (fun _ z => nomatch z), by simp only [List.map_nil, PyData.shownAll]; exact .nil⟩
  | (k, d) :: ds, _, _, h, r, nb, sh, z => by
    cases h with
    | cons h1 h2 =>
      cases r with
      | cons r1 r2 =>
        have n2 : (bareKey k = true ∧ bare d = true) ∧ bareKv ds = true := by simpa [bareKv] using nb
        have s2 : d.showable = true ∧ PyData.showableAll (ds.map (·.2)) = true := by simpa [PyData.showableAll] using sh
        obtain ⟨as, bs, q1, q2, q3⟩ := (DR.rp I d _ _ h1 r1 n2.1.2 s2.1 (z _ (by simp only [List.map_cons, PyData.shownAll]; exact List.mem_cons_self))).ok
        obtain ⟨cs, es, k1, k2, k3⟩ := (DRk.rp I ds _ _ h2 r2 n2.2 s2.2 fun t ht => z t (by simp only [List.map_cons, PyData.shownAll]; exact List.mem_cons_of_mem _ ht)).ok
        refine ⟨as ++ cs, bs ++ es, ReadsAll.cons q1 k1, ?_, ?_⟩
        · simp only [List.map_cons, PyData.depthAll]
          exact read_or (read_up q2 (by omega)) (read_up k2 (by omega))
        · simp only [List.map_cons, PyData.depthAll, PyData.shownAll]
          refine .cons ((q3.more fun b hb => List.mem_append_left _ hb).level_le (by omega)) (k3.more_le (fun b hb => List.mem_append_right _ hb) (by omega))
end
end
theorem Top.dr {K : PySem.W.Frag} {g : Gh} {H HF : Hp} {v : V} {d : PyData} (t : Top K g H HF v d) (l : Le HF H) : DR K H v d := by
  rcases t with h | ⟨p, vs, ds, rfl, rfl, _, h4, h5⟩
  · exact h.mono l
  · exact .lst h4 (h5.mono l)
/-- may be shown, empty dicts within too -/
def showsX (d : PyData) : Bool := bare d && d.showable && decide (d.depth ≤ 60) && decide (d.shown.length ≤ 10000000)
section
variable {X : Cx} {W : Wish} {a : Expr} {fa : Ex} {p pos : Pos}
def oStrI : Op1
  | .int i => if i.natAbs.log2 < 1920 then some (.dat (.str (toString i))) else none
  | _ => none
theorem oStrI_ok {K : PySem.W.Frag} : UnOk K (fun v H Q => ∃ i, [v] = [V.int i] ∧ i.natAbs.log2 < 1920 ∧ Q (.str (toString i)) H) oStrI := fun g H HF f x d rv a t z Q k => by
  cases d <;> try cases z
  rename_i i
  obtain ⟨c, rfl⟩ := ite_some (show (if i.natAbs.log2 < 1920 then some (RV.dat (.str (toString i))) else none) = some rv from z)
  have e := t.int
  subst e
  exact ⟨i, rfl, c, k.now a (.str _)⟩
theorem de_strI (hg : Gl X "str") (hm : X.mg "str" = none) (ha : DE X W a fa) (he : starEach [a] X.env = (false, eval a X.env) :: starEach [] X.env := by rfl) : DE X W (.Call (.Name "str" p) [a] [] pos) (cUn oStrI fa) :=
  de_callTy1 call_str_int oStrI_ok hg hm (by decide +kernel) ha (by decide) (by decide) he
end
def ltT : Op2
  | .tuple xs, .tuple ys => match intsOf xs, intsOf ys with
    | some ns, some ms => some (.dat (.bool (HT.lexLt ns ms)))
    | _, _ => none
  | _, _ => none
def oLtA : Op2 := fun d e => (oLt d e).or (ltT d e)
section
variable {X : Cx} {W : Wish} {a b : Expr} {fa fb : Ex} {pos : Pos}
end
end Dn
end
namespace SrtO
open PySem PySem.W PySem.Calls PyProof.Rows Builtin Srt
section
variable {prog : Program} {w : World} {A : Around} {E : Value → Shared → Prop} {s : Shared}
end
end SrtO
namespace L2
open PySem PySem.Spec PyProof.Rows
section
variable {X : Cx}
end
end L2
namespace Dn
open PySem PySem.Spec L2
/-- sorted of a tuple of tuples of whole numbers -/
def oSortTT : Op1
  | .tuple ds => match tupsOf ds with
    | some ks => some (.own ((sortL ks).map tupI))
    | none => none
  | _ => none
@[simp] theorem oSortTT_tup {ks : List (List Int)} : oSortTT (.tuple (ks.map tupI)) = some (.own ((sortL ks).map tupI)) := by
  show (match tupsOf (ks.map tupI) with
    | some ks => some (RV.own ((sortL ks).map tupI))
    | none => none) = _
  rw [tupsOf_map]
end Dn
section
set_option maxHeartbeats 4000000
namespace L2
open PySem PySem.Spec PyProof.Rows
def rMulS : R2 := fun x y H Q => ∃ (a : Str) (n : Int), x = .str a ∧ y = .int n ∧ a.length ≤ 10 ∧ 0 ≤ n ∧ n ≤ 600 ∧ Q (.str (Txt.mul a n)) H
theorem mulOk_small {a : Str} {n : Int} (h1 : a.length ≤ 10) (h2 : 0 ≤ n) (h3 : n ≤ 600) : MulOk a n := by
  refine ⟨?_, fun c _ => ?_, fun c _ => ?_⟩
  · simp
    omega
  · have : (10 : Int) ≤ (2 ^ 63 - 1) / n := (Int.le_ediv_iff_mul_le (by omega)).mpr (by
      have : (10 : Int) * n ≤ 6000 := by omega
      have : (6000 : Int) ≤ 2 ^ 63 - 1 := by decide
      omega)
    omega
  · have : a.length * n.toNat ≤ 10 * 600 := Nat.mul_le_mul h1 (by omega)
    unfold Builtin.Str.tooLong
    rw [sizeLine_eq]
    simp
    omega
section
variable {X : Cx}
theorem op_mulS : OpR X (binaryOp .Mult) rMulS := by
  intro pins s σ H x y v u Q I rx ry h
  obtain ⟨a, n, rfl, rfl, h1, h2, h3, q⟩ := h
  obtain ⟨t, rfl⟩ := rx
  obtain ⟨t', rfl⟩ := ry
  exact SB.mul (mulOk_small h1 h2 h3) fun t' k => ⟨.str _, H, I.tok _, ⟨_, rfl⟩, q⟩
end
end L2
namespace Dn
open PySem PySem.Spec L2
def oMulS : Op2
  | .str a, .int n => if a.length ≤ 10 ∧ 0 ≤ n ∧ n ≤ 600 then some (.dat (.str (Txt.mul a n))) else none
  | _, _ => none
theorem oMulS_ok {K : PySem.W.Frag} : BinOk K rMulS oMulS := fun g H HF f x y d e rv a t u z Q k => by
  cases d <;> try cases z
  cases e <;> try cases z
  rename_i p n
  unfold oMulS at z
  obtain ⟨c, rfl⟩ := ite_some z
  exact ⟨p, n, t.str, u.int, c.1, c.2.1, c.2.2, k.now a (.str _)⟩
def oIntS : Op1
  | .str a => if a.length ≤ 640 then (PySem.intText? a).map fun n => .dat (.int n) else none
  | _ => none
theorem oIntS_ok {K : PySem.W.Frag} : UnOk K (fun v H Q => ∃ a n, [v] = [V.str a] ∧ PySem.intText? a = some n ∧ a.length ≤ 640 ∧ Q (.int n) H) oIntS := fun g H HF f x d rv a t z Q k => by
  cases d <;> try cases z
  rename_i p
  replace z : (if p.length ≤ 640 then (PySem.intText? p).map fun n => RV.dat (.int n) else none) = some rv := z
  by_cases c : p.length ≤ 640
  · rw [if_pos c] at z
    cases q : PySem.intText? p with
    | none => simp only [q] at z; cases z
    | some n =>
      simp only [q] at z
      cases z
      exact ⟨p, n, by rw [t.str], q, c, k.now a (.int _)⟩
  · rw [if_neg c] at z
    cases z
section
variable {X : Cx} {W : Wish} {a b : Expr} {fa fb : Ex} {p pos : Pos}
theorem de_intS (hg : Gl X "int") (hm : X.mg "int" = none) (ha : DE X W a fa) (he : starEach [a] X.env = (false, eval a X.env) :: starEach [] X.env := by rfl) : DE X W (.Call (.Name "int" p) [a] [] pos) (cUn oIntS fa) :=
  de_callTy1 call_int_str oIntS_ok hg hm (by decide +kernel) ha (by decide) (by decide) he
theorem de_mulS (ha : DE X W a fa) (hb : DE X W b fb) : DE X W (.BinOp a .Mult b pos) (cBin oMulS fa fb) := de_bin op_mulS oMulS_ok ha hb
end
theorem cps_app (a b : Str) : (a ++ b).cps.toList = a.cps.toList ++ b.cps.toList := by
  show (a.cps ++ b.cps).toList = _
  rw [Array.toList_append]
end Dn
end
section
set_option maxHeartbeats 4000000
namespace Dn
open PySem PySem.Spec L2
def cDict1 (k : Key) (e : Ex) : Ex := fun ρ f => dt (e ρ f) fun d f1 => .ok (.dat (.dict [(keyD k, d)])) f1
section
variable {K : PySem.W.Frag} {g : Gh} {σ : St} {H HF : Hp} {ρ : Rho} {f : Feed}
/-- a new object that no slot holds -/
theorem Rel.fresh {p : Addr} {o : HO} (r : Rel K g σ H HF ρ f) (hp : H p = none) : Rel K g σ (upd H p o) HF ρ f := by
  have hf : HF p = none := by
    cases z : HF p with
    | none => rfl
    | some o => rw [r.sub _ _ z] at hp; cases hp
  refine r.other (r.dead hp) hf (fun z => by rw [z] at hp; exact r.feed.ne hp) (fun i ds e1 e2 => ?_) (fun i k e1 e2 => ?_) (fun i dss q qs e1 e2 e3 m => by
    obtain ⟨us, z⟩ := (r.bdWas (Step.refl r.sub) e1 e2 e3).live m
    rw [hp] at z
    cases z)
  · obtain ⟨q, vs, z1, z2, z3, z4, z5⟩ := r.slot i _ e1
    rw [z1] at e2
    cases e2
    rw [z4] at hp
    cases hp
  · obtain ⟨q, z1, z2, z3, z4⟩ := r.slot i _ e1
    rw [z1] at e2
    cases e2
    exact z4.some hp
end
section
variable {X : Cx} {W : Wish} {e : Expr} {fe : Ex} {ke : Expr} {k : Key} {pos : Pos}
end
@[simp] theorem e_Dict1 {k : Key} {a : Ex} {ρ : Rho} {f : Feed} : cDict1 k a ρ f = dt (a ρ f) fun d f1 => .ok (.dat (.dict [(keyD k, d)])) f1 := nr rfl
end Dn
end
section
set_option maxHeartbeats 4000000
namespace L2
open PySem PySem.Spec PyProof.Rows
section
variable {X : Cx} {pins : List (Addr × Obj)} {σ : St} {H : Hp} {s : Shared} {a b : Addr} {y d v : V} {u r : Value} {o : Option V} {A : Around} {E : Value → Shared → Prop}
end
section
variable {X : Cx} {o i e f : Expr} {pos apos cpos : Pos} {td ty tx : TE}
end
end L2
namespace Dn
open PySem PySem.Spec L2
section
variable {κ : Type} [DecidableEq κ]
def getK (kvs : List (κ × PyData)) (k : κ) : Option PyData := (kvs.find? fun p => decide (p.1 = k)).map (·.2)
def setK (kvs : List (κ × PyData)) (k : κ) (d : PyData) : List (κ × PyData) :=
  if (kvs.any fun p => decide (p.1 = k)) = true then kvs.map (fun p => if p.1 = k then (p.1, d) else p) else kvs ++ [(k, d)]
theorem getK_cons {p : κ × PyData} {r : List (κ × PyData)} {k : κ} : getK (p :: r) k = if p.1 = k then some p.2 else getK r k := by
  by_cases h : p.1 = k <;> simp [getK, List.find?_cons, h]
variable {κ' : Type} [DecidableEq κ'] {K : PySem.W.Frag} {HF : Hp} {ι : κ → κ'} (inj : ∀ a b, ι a = ι b → a = b)
include inj
end
theorem setK_len {κ : Type} [DecidableEq κ] (kvs : List (κ × PyData)) (k : κ) (d : PyData) : (setK kvs k d).length ≤ kvs.length + 1 := by
  unfold setK
  split
  · rw [List.length_map]
    omega
  · rw [List.length_append]
    exact Nat.le_refl _
section
variable {K : PySem.W.Frag} {g : Gh} {σ : St} {H HF : Hp} {ρ : Rho} {f : Feed} {i : Nat} {p : Addr}
end
def sDct (b : Bool) (i : Nat) : Sm := fun ρ f => .ok (.nx (ρ.set i (.dct (if b = true then .T [] else .I [])))) f
section
variable {X : Cx} {E : XK} {i : Nat} {y : Str} {j pos pos2 : Pos}
end
abbrev Kx := Rho → Feed → R (List Int)
def kVar (i : Nat) : Kx := fun ρ f => match ρ[i]? with
  | some (.key ks) => .ok ks f
  | _ => .no
def kTup (xs : List Ex) : Kx := fun ρ f => (cArgs xs ρ f).bind fun ds f1 => match intsOf ds with
  | some ks => if ks.length ≤ 1000 then .ok ks f1 else .no
  | none => .no
section
variable {X : Cx} {W : Wish} {pos : Pos}
end
def sKey (i : Nat) (e : Kx) : Sm := fun ρ f => (e ρ f).bind fun ks f1 => .ok (.nx (ρ.set i (.key ks))) f1
section
variable {X : Cx} {E : XK} {i : Nat} {y : Str} {pos pos2 : Pos} {e : Expr} {x : Kx}
end
def sDputI (i : Nat) (ix e : Ex) : Sm := fun ρ f => match ρ[i]? with
  | some (.dct (.I kvs)) => dt (e ρ f) fun d f1 => pk (ix ρ f1) fun k f2 => match k with
    | .int n => if kvs.length < 100000 then .ok (.nx (ρ.set i (.dct (.I (setK kvs n d))))) f2 else .no
    | _ => .no
  | _ => .no
def sDputT (i : Nat) (ix : Kx) (e : Ex) : Sm := fun ρ f => match ρ[i]? with
  | some (.dct (.T kvs)) => dt (e ρ f) fun d f1 => (ix ρ f1).bind fun ks f2 => if kvs.length < 100000 then .ok (.nx (ρ.set i (.dct (.T (setK kvs ks d))))) f2 else .no
  | _ => .no
section
variable {X : Cx} {E : XK} {i : Nat} {o ie e : Expr} {xi x : Ex} {xk : Kx} {pos pos2 : Pos}
end
end Dn
end
section
set_option maxHeartbeats 4000000
namespace L2
open PySem PySem.Spec PyProof.Rows Builtin Srt
section
variable {X : Cx}
end
section
variable {X : Cx} {o : Expr} {p pos apos mpos : Pos} {td : TE}
end
end L2
end
section
set_option maxHeartbeats 4000000
namespace Dn
open PySem PySem.Spec L2
/-- data whose keys are whole numbers -/
def intKeys : List (PyData × PyData) → Option (List (Int × PyData))
  | [] => some []
  | (.int n, d) :: r => (intKeys r).map ((n, d) :: ·)
  | _ :: _ => none
theorem intKeys_map : ∀ kvs : List (Int × PyData), intKeys (kvs.map fun q => (.int q.1, q.2)) = some kvs
  | [] => rfl
  | (k, d) :: r => by
    rw [List.map_cons, intKeys, intKeys_map r]
    rfl
/-- data whose keys are tuples of whole numbers: it begins with a mark -/
def tupKeys : List (PyData × PyData) → Option (List (List Int × PyData))
  | [] => some []
  | (.tuple ds, d) :: r => match intsOf ds with
    | some k => (tupKeys r).map ((k, d) :: ·)
    | none => none
  | _ :: _ => none
def dictT (kvs : List (List Int × PyData)) : PyData := .dict ((.bool true, .none) :: kvs.map fun q => (.tuple (q.1.map .int), q.2))
theorem tupKeys_map : ∀ kvs : List (List Int × PyData), tupKeys (kvs.map fun q => (.tuple (q.1.map .int), q.2)) = some kvs
  | [] => rfl
  | (k, d) :: r => by
    have e : ∀ ns : List Int, intsOf (ns.map .int) = some ns := fun ns => by
      induction ns with
      | nil => rfl
      | cons n ns ih =>
        rw [List.map_cons, intsOf, ih]
        rfl
    rw [List.map_cons, tupKeys]
    simp only [e, tupKeys_map r]
    rfl
def dkOf (ks : List (PyData × PyData)) : Option Dk := match intKeys ks with
  | some kvs => some (.I kvs)
  | none => match ks with
    | (.bool true, .none) :: r => (tupKeys r).map Dk.T
    | _ => none
def dictAt (ρ : Rho) (i : Nat) : Option Dk := match ρ[i]? with
  | some (.dct k) => some k
  | some (.dat (.dict ks)) => dkOf ks
  | _ => none
section
variable {K : PySem.W.Frag} {g : Gh} {σ : St} {H HF : Hp} {ρ : Rho} {f : Feed} {i : Nat}
def keyGet (k : Dk) (d : PyData) : Option (Option PyData) := match k, d with
  | .I kvs, .int n => some (getK kvs n)
  | .T kvs, .tuple ds => (intsOf ds).map (getK kvs)
  | _, _ => none
end
/-- t[k] -/
def cDGet (i : Nat) (ix : Ex) : Ex := fun ρ f => match dictAt ρ i with
  | some t => pk (ix ρ f) fun k f1 => match keyGet t k with
    | some (some d) => .ok (.dat d) f1
    | _ => .no
  | none => .no
/-- t.get(k, d) -/
def cDGet2 (i : Nat) (ix dx : Ex) : Ex := fun ρ f => match dictAt ρ i with
  | some t => pk (ix ρ f) fun k f1 => dt (dx ρ f1) fun d f2 => match keyGet t k with
    | some o => .ok (.dat (o.getD d)) f2
    | none => .no
  | none => .no
/-- list(t.values()) -/
def Dk.vals : Dk → List PyData
  | .I kvs => kvs.map (·.2)
  | .T kvs => kvs.map (·.2)
def cDVals (i : Nat) : Ex := fun ρ f => match dictAt ρ i with
  | some t => .ok (.own t.vals) f
  | none => .no
/-- list(t), sorted(t) -/
def cDKeys (i : Nat) : Ex := fun ρ f => match dictAt ρ i with
  | some (.I kvs) => .ok (.own (kvs.map fun q => .int q.1)) f
  | _ => .no
def cDSort (i : Nat) : Ex := fun ρ f => match dictAt ρ i with
  | some (.T kvs) => if kvs.length ≤ 100000 then .ok (.own ((sortL (kvs.map (·.1))).map tupI)) f else .no
  | _ => .no
def sFrzD (i : Nat) : Sm := fun ρ f => match ρ[i]? with
  | some (.dct (.I kvs)) => .ok (.nx (ρ.set i (.dat (.dict (kvs.map fun q => (.int q.1, q.2)))))) f
  | _ => .ok (.nx ρ) f
section
variable {K : PySem.W.Frag} {g : Gh} {σ : St} {H HF : Hp} {ρ : Rho} {f : Feed}
end
section
variable {K : PySem.W.Frag} {g : Gh} {σ : St} {H HF : Hp} {ρ : Rho} {f : Feed}
end
/-- a dict of tuple keys is told as a datum from here on -/
def sFrzT (i : Nat) : Sm := fun ρ f => match ρ[i]? with
  | some (.dct (.T kvs)) => .ok (.nx (ρ.set i (.dat (dictT kvs)))) f
  | _ => .ok (.nx ρ) f
section
variable {K : PySem.W.Frag} {g : Gh} {σ : St} {H HF : Hp} {ρ : Rho} {f : Feed} {i : Nat}
end
section
variable {X : Cx} {W : Wish} {i : Nat} {o ie e : Expr} {xi x : Ex} {pos apos mpos cpos p : Pos}
end
end Dn
end
section
set_option maxHeartbeats 4000000
namespace L2
open PySem PySem.Spec PyProof.Rows Builtin
section
variable {X : Cx} {o : Expr} {p pos apos mpos : Pos} {td : TE}
end
end L2
namespace Dn
open PySem PySem.Spec L2
/-- sum(t.values()) -/
def cDSum (i : Nat) : Ex := fun ρ f => match dictAt ρ i with
  | some t => match intsOf t.vals with
    | some ns => .ok (.dat (.int ns.sum)) f
    | none => .no
  | none => .no
section
variable {X : Cx} {W : Wish} {i : Nat} {o : Expr} {pos apos mpos p : Pos}
end
end Dn
end
section
set_option maxHeartbeats 4000000
namespace Dn
open PySem PySem.Spec L2
section
variable {α β : Type} {ρ : Rho} {f : Feed} {i j : Nat} {x y : Ex} {kx : Kx}
@[simp] theorem e_dctT : sDct true i ρ f = .ok (.nx (ρ.set i (.dct (.T [])))) f := nr rfl
@[simp] theorem e_dctI : sDct false i ρ f = .ok (.nx (ρ.set i (.dct (.I [])))) f := nr rfl
@[simp] theorem e_key : sKey i kx ρ f = (kx ρ f).bind fun ks f1 => .ok (.nx (ρ.set i (.key ks))) f1 := nr rfl
@[simp] theorem e_kVar : kVar i ρ f = match ρ[i]? with
  | some (.key ks) => .ok ks f
  | _ => .no := nr rfl
@[simp] theorem e_kTup {xs : List Ex} : kTup xs ρ f = (cArgs xs ρ f).bind fun ds f1 => match intsOf ds with
  | some ks => if ks.length ≤ 1000 then .ok ks f1 else .no
  | none => .no := nr rfl
@[simp] theorem e_dputI : sDputI i y x ρ f = match ρ[i]? with
  | some (.dct (.I kvs)) => dt (x ρ f) fun d f1 => pk (y ρ f1) fun k f2 => match k with
    | .int n => if kvs.length < 100000 then .ok (.nx (ρ.set i (.dct (.I (setK kvs n d))))) f2 else .no
    | _ => .no
  | _ => .no := nr rfl
@[simp] theorem e_dputT : sDputT i kx x ρ f = match ρ[i]? with
  | some (.dct (.T kvs)) => dt (x ρ f) fun d f1 => (kx ρ f1).bind fun ks f2 => if kvs.length < 100000 then .ok (.nx (ρ.set i (.dct (.T (setK kvs ks d))))) f2 else .no
  | _ => .no := nr rfl
@[simp] theorem e_dictAt : dictAt ρ i = match ρ[i]? with
  | some (.dct k) => some k
  | some (.dat (.dict ks)) => dkOf ks
  | _ => none := nr rfl
@[simp] theorem intKeys_mapS {kvs : List (Int × PyData)} : intKeys (kvs.map fun q => (.int q.1, q.2)) = some kvs := intKeys_map kvs
@[simp] theorem dkOf_I {kvs : List (Int × PyData)} : dkOf (kvs.map fun q => (.int q.1, q.2)) = some (.I kvs) := by
  unfold dkOf
  rw [intKeys_map]
@[simp] theorem dkOf_nil : dkOf [] = some (.I []) := nr rfl
@[simp] theorem dkOf_T {kvs : List (List Int × PyData)} : dkOf ((.bool true, .none) :: kvs.map fun q => (.tuple (q.1.map .int), q.2)) = some (.T kvs) := by
  show Option.map Dk.T (tupKeys _) = _
  rw [tupKeys_map]
  rfl
@[simp] theorem e_frzT : sFrzT i ρ f = match ρ[i]? with
  | some (.dct (.T kvs)) => .ok (.nx (ρ.set i (.dat (dictT kvs)))) f
  | _ => .ok (.nx ρ) f := nr rfl
@[simp] theorem e_dget : cDGet i x ρ f = match dictAt ρ i with
  | some t => pk (x ρ f) fun k f1 => match keyGet t k with
    | some (some d) => .ok (.dat d) f1
    | _ => .no
  | none => .no := nr rfl
@[simp] theorem e_dget2 : cDGet2 i x y ρ f = match dictAt ρ i with
  | some t => pk (x ρ f) fun k f1 => dt (y ρ f1) fun d f2 => match keyGet t k with
    | some o => .ok (.dat (o.getD d)) f2
    | none => .no
  | none => .no := nr rfl
@[simp] theorem keyGetI {kvs : List (Int × PyData)} {n : Int} : keyGet (.I kvs) (.int n) = some (getK kvs n) := nr rfl
@[simp] theorem keyGetT {kvs : List (List Int × PyData)} {ds : List PyData} : keyGet (.T kvs) (.tuple ds) = (intsOf ds).map (getK kvs) := nr rfl
@[simp] theorem intsOf_nil : intsOf [] = some [] := nr rfl
@[simp] theorem intsOf_cons {n : Int} {r : List PyData} : intsOf (.int n :: r) = (intsOf r).map (n :: ·) := by
  cases h : intsOf r <;> simp [intsOf, h]
@[simp] theorem e_dvals : cDVals i ρ f = match dictAt ρ i with
  | some t => .ok (.own t.vals) f
  | none => .no := nr rfl
@[simp] theorem valsI {kvs : List (Int × PyData)} : Dk.vals (.I kvs) = kvs.map (·.2) := nr rfl
@[simp] theorem valsT {kvs : List (List Int × PyData)} : Dk.vals (.T kvs) = kvs.map (·.2) := nr rfl
@[simp] theorem e_dsum : cDSum i ρ f = match dictAt ρ i with
  | some t => match intsOf t.vals with
    | some ns => .ok (.dat (.int ns.sum)) f
    | none => .no
  | none => .no := nr rfl
@[simp] theorem e_dkeys : cDKeys i ρ f = match dictAt ρ i with
  | some (.I kvs) => .ok (.own (kvs.map fun q => .int q.1)) f
  | _ => .no := nr rfl
@[simp] theorem e_dsort : cDSort i ρ f = match dictAt ρ i with
  | some (.T kvs) => if kvs.length ≤ 100000 then .ok (.own ((sortL (kvs.map (·.1))).map tupI)) f else .no
  | _ => .no := nr rfl
@[simp] theorem e_frzD : sFrzD i ρ f = match ρ[i]? with
  | some (.dct (.I kvs)) => .ok (.nx (ρ.set i (.dat (.dict (kvs.map fun q => (.int q.1, q.2)))))) f
  | _ => .ok (.nx ρ) f := nr rfl
end
section
variable {κ : Type} [DecidableEq κ]
theorem setK_keys (kvs : List (κ × PyData)) (k : κ) (d : PyData) : (setK kvs k d).map (·.1) = if k ∈ kvs.map (·.1) then kvs.map (·.1) else kvs.map (·.1) ++ [k] := by
  unfold setK
  have e : (kvs.any fun p => decide (p.1 = k)) = true ↔ k ∈ kvs.map (·.1) := by
    rw [List.any_eq_true, List.mem_map]
    constructor
    · rintro ⟨p, h1, h2⟩
      exact ⟨p, h1, of_decide_eq_true h2⟩
    · rintro ⟨p, h1, h2⟩
      exact ⟨p, h1, decide_eq_true h2⟩
  by_cases c : k ∈ kvs.map (·.1)
  · rw [if_pos (e.mpr c), if_pos c, List.map_map]
    refine List.map_congr_left fun q _ => ?_
    show (if q.1 = k then (q.1, d) else q).1 = q.1
    split <;> rfl
  · rw [if_neg (fun z => c (e.mp z)), if_neg c, List.map_append]
    rfl
theorem setK_nodup {kvs : List (κ × PyData)} (k : κ) (d : PyData) (h : (kvs.map (·.1)).Nodup) : ((setK kvs k d).map (·.1)).Nodup := by
  rw [setK_keys]
  split
  · exact h
  · rename_i c
    exact List.nodup_append.mpr ⟨h, by simp, fun a ha b hb => by
      rw [List.mem_singleton] at hb
      subst hb
      exact fun z => c (z ▸ ha)⟩
theorem setK_mem {kvs : List (κ × PyData)} {k : κ} {d : PyData} {p : κ × PyData} (h : p ∈ setK kvs k d) : p ∈ kvs ∨ p = (k, d) := by
  unfold setK at h
  split at h
  · obtain ⟨q, hq, e⟩ := List.mem_map.mp h
    split at e
    · rename_i c
      exact .inr (by rw [← e, c])
    · exact .inl (e ▸ hq)
  · rcases List.mem_append.mp h with h | h
    · exact .inl h
    · exact .inr (List.mem_singleton.mp h)
theorem getK_of_mem {kvs : List (κ × PyData)} {p : κ × PyData} (n : (kvs.map (·.1)).Nodup) (h : p ∈ kvs) : getK kvs p.1 = some p.2 := by
  induction kvs with
  | nil => cases h
  | cons q r ih =>
    rw [List.map_cons, List.nodup_cons] at n
    rw [getK_cons]
    rcases List.mem_cons.mp h with e | h
    · rw [e, if_pos rfl]
    · have : ¬ q.1 = p.1 := fun z => n.1 (by rw [z]; exact List.mem_map_of_mem h)
      rw [if_neg this]
      exact ih n.2 h
end
end Dn
end
section
set_option maxHeartbeats 4000000
namespace Dn
open PySem PySem.Spec L2
section
variable {α β : Type} {F G : α → β → Prop}
theorem paired_lenB : ∀ {as : List α} {bs : List β}, Paired F as bs → as.length = bs.length
  | _, _, .nil => rfl
  | _, _, .cons _ r => congrArg (· + 1) (paired_lenB r)
theorem paired_getB : ∀ {as : List α} {bs : List β} {j : Nat} {b : β}, Paired F as bs → bs[j]? = some b → ∃ a, as[j]? = some a ∧ F a b
  | _, _, _, _, .nil, e => by simp at e
  | _, _, 0, b, .cons h _, e => by
    simp at e
    subst e
    exact ⟨_, rfl, h⟩
  | _, _, j + 1, b, .cons _ r, e => by
    obtain ⟨a, h1, h2⟩ := paired_getB (j := j) r (by simpa using e)
    exact ⟨a, by simpa using h1, h2⟩
end
section
variable {K : PySem.W.Frag} {mg : Str → Option Value} {W : Wish} {E : XK} {g : Gh} {σ : St} {H HF G GF : Hp} {ρ : Rho} {f : Feed} {p q a : Addr} {qs : List Addr} {dss : List (List PyData)} {i j : Nat}
theorem BdAt.at (b : BdAt K g H HF p qs dss) {k : Int} {ds : List PyData} (c : atI dss k = some ds) : ∃ q, atI qs k = some q ∧ q ∈ qs ∧ g.H0 q = none ∧ HF q = none ∧ ∃ vs, H q = some (.lst vs) ∧ DRs K HF vs ds := by
  have hl := paired_lenB b.2.2.2
  unfold atI at c ⊢
  rw [hl]
  cases z : ixN dss.length k with
  | none =>
    rw [z] at c
    cases c
  | some j =>
    rw [z] at c
    obtain ⟨q, e, vs, w1, w2⟩ := paired_getB b.2.2.2 (show dss[j]? = some ds from c)
    have m : q ∈ qs := List.mem_of_getElem? e
    obtain ⟨h1, h2⟩ := b.2.2.1 q (List.mem_cons_of_mem _ m)
    exact ⟨q, e, m, h1, h2, vs, w1, w2⟩
/-- board[k] -/
def cRow (i : Nat) (xi : Ex) : Ex := fun ρ f => match ρ[i]? with
  | some (.brd dss) => pk (xi ρ f) fun k f1 => match k with
    | .int k => match atI dss k with
      | some ds => .ok (.lent i ds) f1
      | none => .no
    | _ => .no
  | _ => .no
/-- board[a][b] = e -/
def sBPut (i : Nat) (xa xb e : Ex) : Sm := fun ρ f => match ρ[i]? with
  | some (.brd dss) => dt (e ρ f) fun d f1 => pk (xa ρ f1) fun k f2 => match k with
    | .int k => match ixN dss.length k with
      | some j => match dss[j]? with
        | some ds => pk (xb ρ f2) fun l f3 => match l with
          | .int l => match ixN ds.length l with
            | some m => .ok (.nx (ρ.set i (.brd (dss.set j (ds.set m d))))) f3
            | none => .no
          | _ => .no
        | none => .no
      | none => .no
    | _ => .no
  | _ => .no
/-- board.append(row), the row a growing list of its own name, which holds nothing from here on -/
def sBApp (i j : Nat) : Sm := fun ρ f => match ρ[i]? with
  | some (.brd dss) => match ρ[j]? with
    | some (.own ds) => if dss.length < 100000 then .ok (.nx ((ρ.set i (.brd (dss ++ [ds]))).set j .emp)) f else .no
    | _ => .no
  | _ => .no
/-- a board is told as a datum from here on -/
def sFrzB (i : Nat) : Sm := fun ρ f => match ρ[i]? with
  | some (.brd dss) => .ok (.nx (ρ.set i (.dat (.list (dss.map .list))))) f
  | _ => .ok (.nx ρ) f
abbrev Bx := Rho → Feed → R (List (List PyData))
def isBrd : Slot → Bool
  | .brd _ => true
  | _ => false
def sBrd (i : Nat) (b : Bx) : Sm := fun ρ f => if (ρ.set i .emp).any isBrd = true then .no else (b ρ f).bind fun dss f1 => .ok (.nx (ρ.set i (.brd dss))) f1
/-- [e], e a growing list -/
def bOne (e : Ex) : Bx := fun ρ f => (e ρ f).bind fun rv f1 => match rv with
  | .own ds => .ok [ds] f1
  | _ => .no
def lcB (T : Tgt) (e : Ex) (ρ : Rho) : List PyData → List (List PyData) → Feed → R (List (List PyData))
  | [], acc, f => .ok acc f
  | d :: ds, acc, f => match T.put d ρ with
    | none => .no
    | some ρ1 => (noEx (e ρ1 f)).bind fun rv f2 => match rv with
      | .own ys => if acc.length < 100000 then lcB T e ρ ds (acc ++ [ys]) f2 else .no
      | _ => .no
/-- [[..] for ..] -/
def bLc (it : Ix) (T : Tgt) (e : Ex) (vs : List Nat) : Bx := fun ρ f => (it ρ f).bind fun ds f1 => lcB T e (wipeR ρ vs) ds [] f1
end
end Dn
end
section
set_option maxHeartbeats 4000000
namespace L2
open PySem PySem.Spec PyProof.Rows
end L2
namespace Dn
open PySem PySem.Spec L2
/-- {(a, ..): e} -/
def cDictT1 (kx : Kx) (e : Ex) : Ex := fun ρ f => (kx ρ f).bind fun ks f1 => dt (e ρ f1) fun d f2 => .ok (.dat (dictT [(ks, d)])) f2
section
variable {X : Cx} {W : Wish} {ke e : Expr} {kx : Kx} {fe : Ex} {pos : Pos}
end
@[simp] theorem e_dictT1 {kx : Kx} {e : Ex} {ρ : Rho} {f : Feed} : cDictT1 kx e ρ f = (kx ρ f).bind fun ks f1 => dt (e ρ f1) fun d f2 => .ok (.dat (dictT [(ks, d)])) f2 := nr rfl
section
variable {ρ : Rho} {f : Feed} {i j : Nat} {x y z : Ex}
@[simp] theorem e_row : cRow i x ρ f = match ρ[i]? with
  | some (.brd dss) => pk (x ρ f) fun k f1 => match k with
    | .int k => match atI dss k with
      | some ds => .ok (.lent i ds) f1
      | none => .no
    | _ => .no
  | _ => .no := nr rfl
@[simp] theorem e_bput : sBPut i x y z ρ f = match ρ[i]? with
  | some (.brd dss) => dt (z ρ f) fun d f1 => pk (x ρ f1) fun k f2 => match k with
    | .int k => match ixN dss.length k with
      | some j => match dss[j]? with
        | some ds => pk (y ρ f2) fun l f3 => match l with
          | .int l => match ixN ds.length l with
            | some m => .ok (.nx (ρ.set i (.brd (dss.set j (ds.set m d))))) f3
            | none => .no
          | _ => .no
        | none => .no
      | none => .no
    | _ => .no
  | _ => .no := nr rfl
@[simp] theorem e_bapp : sBApp i j ρ f = match ρ[i]? with
  | some (.brd dss) => match ρ[j]? with
    | some (.own ds) => if dss.length < 100000 then .ok (.nx ((ρ.set i (.brd (dss ++ [ds]))).set j .emp)) f else .no
    | _ => .no
  | _ => .no := nr rfl
@[simp] theorem e_frzB : sFrzB i ρ f = match ρ[i]? with
  | some (.brd dss) => .ok (.nx (ρ.set i (.dat (.list (dss.map .list))))) f
  | _ => .ok (.nx ρ) f := nr rfl
@[simp] theorem isBrd_emp : isBrd .emp = false := nr rfl
@[simp] theorem isBrd_dat {d : PyData} : isBrd (.dat d) = false := nr rfl
@[simp] theorem isBrd_own {ds : List PyData} : isBrd (.own ds) = false := nr rfl
@[simp] theorem isBrd_feed : isBrd .feed = false := nr rfl
@[simp] theorem isBrd_dct {k : Dk} : isBrd (.dct k) = false := nr rfl
@[simp] theorem isBrd_key {k : List Int} : isBrd (.key k) = false := nr rfl
@[simp] theorem e_brd {b : Bx} : sBrd i b ρ f = if (ρ.set i .emp).any isBrd = true then .no else (b ρ f).bind fun dss f1 => .ok (.nx (ρ.set i (.brd dss))) f1 := nr rfl
@[simp] theorem e_bOne {e : Ex} : bOne e ρ f = (e ρ f).bind fun rv f1 => match rv with
  | .own ds => .ok [ds] f1
  | _ => .no := nr rfl
@[simp] theorem e_bLc {it : Ix} {T : Tgt} {e : Ex} {vs : List Nat} : bLc it T e vs ρ f = (it ρ f).bind fun ds f1 => lcB T e (wipeR ρ vs) ds [] f1 := nr rfl
end
section
variable {X : Cx} {W : Wish} {E : XK} {i j : Nat} {pos pos2 : Pos}
end
end Dn
end
section
set_option maxHeartbeats 4000000
namespace Dn
open PySem PySem.Spec L2
section
variable {X : Cx} {W : Wish} {k : Nat} {x : Str} {F : Fn} {p pos : Pos}
theorem de_has0 (h : Has X.prog X.w X.K X.mg X.base k x [] F) (gd : X.A.guards = some []) (hr : Room k X.A) (hg : Gl X x) (hdb : (x == ("__debug__" : Str)) = false := by decide) : DE X W (.Call (.Name x p) [] [] pos) (cCall F []) := by
  obtain ⟨f, fd, hm, hk, hb, G, hno⟩ := h
  have hp : PE X (.Call (.Name x p) [] [] pos) (fun σ H Q => spD X.K X.mg 0 F [] H Q fun _ _ _ => False) :=
    ⟨fun pins s σ H Q I h => wpAny_Call_Name_kw (ld_glob I hg hm (PySem.W.callWith_K0 I.kIn hk (goG G gd hr hb pass0 I .nil h)) hdb)⟩
  refine pe_mono hp fun σ H Q ⟨g, HF, ρ, fe, rel, q⟩ => ⟨rfl, g, HF, [], fe, ⟨rel.sub, rel.feed, .nil⟩, ?_⟩
  have q1 : ROk X.K X.mg g H HF (W σ) (F [] fe) (Fin X.K g σ H HF Q) := q
  cases z : F [] fe with
  | no =>
    rw [z] at q1
    exact q1
  | ex c v f =>
    exact (show False from hno [] fe c v f z).elim
  | ok rv f2 =>
    rw [z] at q1
    exact fun v J JF s2 h2 rr => (show Fin X.K g σ H HF Q rv f2 from q1) v J JF s2 h2 rr.any
end
end Dn
end
section
set_option maxHeartbeats 4000000
namespace Dn
open PySem PySem.Spec L2
def feedK (ca : Addr) (t : Int) : HO := .dK [(Sum.inr "cells", .ref ca), (Sum.inr "at", .int 0), (Sum.inr "left", .int 0), (Sum.inr "turn", .int t)]
/-- a feed is made of a list -/
def spFeed2 (K : PySem.W.Frag) : Sp := fun vs H Q _ => ∃ (a : Addr) (ns : List Int), vs = [.ref a] ∧ SqL K H a (ns.map V.int) ∧ ns.length ≤ 63 ∧
  ∀ (fa ca : Addr) (G : Hp), Le H G → H fa = none → H ca = none → fa ≠ ca → G fa = some (feedK ca 0) → G ca = some (.lst (ns.map V.int)) → Q (.ref fa) G
theorem feed_made2 {K : PySem.W.Frag} {vs : List V} {H : Hp} {Q : VK} {E : XK} (h : spFeed2 K vs H Q E) :
    tRet (tDisp [(tC (.str "cells"), tCB (fun xs H Q => ∃ p ys, xs = [.ref p] ∧ (SqL K H p ys ∨ SqT K H p ys) ∧ ∀ l, H l = none → Q (.ref l) (upd H l (.lst ys))) (tCons (tSl (rSlL K) (tVar 0) tNoPart (tPart (tC (.int 63)))) tNil)),
      (tC (.str "at"), tC (.int 0)), (tC (.str "left"), tC (.int 0)), (tC (.str "turn"), tC (.int 0))]) { nx := fun _ G => Q .non G, rt := Q } (L2.start ["_law_script"] vs) H := by
  obtain ⟨a, ns, rfl, hs, hl, q⟩ := h
  intro p hp
  have l1 : Le H (upd H p (.dK [])) := le_new hp
  have hs1 : SqL K (upd H p (.dK [])) a (ns.map V.int) := l1.sqL hs
  refine ⟨.ref a, rfl, 63, rfl, a, ns.map V.int, rfl, hs1, fun c hc => ⟨c, _, rfl, .inl (.inl (.inl upd_same)), fun l hl2 => ?_⟩⟩
  rw [cut63 hl] at hl2 ⊢
  have l2 := le_new (o := .lst (ns.map V.int)) hc
  have l3 := le_new (o := .lst (ns.map V.int)) hl2
  have ep := l3 _ _ (l2 _ _ (upd_same (H := H) (a := p) (o := .dK [])))
  have npl : p ≠ l := fun z => by
    have e2 := l2 _ _ (upd_same (H := H) (a := p) (o := .dK []))
    exact ne_of_none e2 hl2 z
  have hl0 : H l = none := by
    cases e : H l with
    | none => rfl
    | some o =>
      have := l2 _ _ (l1 _ _ e)
      rw [hl2] at this
      cases this
  refine ⟨ep, [(Sum.inr "cells", .ref l), (Sum.inr "at", .int 0), (Sum.inr "left", .int 0), (Sum.inr "turn", .int 0)], rfl, by show 4 ≤ 15; decide, ?_⟩
  have em : mergeK [] [((Sum.inr "cells" : Key), V.ref l), (Sum.inr "at", .int 0), (Sum.inr "left", .int 0), (Sum.inr "turn", .int 0)] = [((Sum.inr "cells" : Key), V.ref l), (Sum.inr "at", .int 0), (Sum.inr "left", .int 0), (Sum.inr "turn", .int 0)] := rfl
  rw [em]
  refine q p l _ (fun x o e => ?_) hp hl0 npl upd_same ?_
  · have e2 := l3 _ _ (l2 _ _ (l1 _ _ e))
    rw [upd_ne (ne_of_none e hp)]
    exact e2
  · rw [upd_ne npl.symm]
    exact upd_same
/-- .. of the script, from its last number on, at a turn far on -/
def spLater (K : PySem.W.Frag) : Sp := fun vs H Q _ => ∃ (a : Addr) (ns : List Int), vs = [.ref a] ∧ SqL K H a (ns.map V.int) ∧ ns.length ≤ 63 ∧
  ∀ (fa ca : Addr) (G : Hp), Le H G → H fa = none → H ca = none → fa ≠ ca → G fa = some (feedK ca 700) → G ca = some (.lst (ns.reverse.map V.int)) → Q (.ref fa) G
def tLaterA (K : PySem.W.Frag) : TA := tCons (tRevL K (tSl (rSlL K) (tVar 0) tNoPart (tPart (tC (.int 63))))) tNil
theorem later_made {K : PySem.W.Frag} {vs : List V} {H : Hp} {Q : VK} {E E2 : XK} (h : spLater K vs H Q E) :
    tLaterA K (L2.start ["_law_script", "_law_feed_here"] vs) H fun ws G => spFeed2 K ws G (fun v G2 => (sDPut (tVar 1) (tC (.str "turn")) (tC (.int 700))) { nx := fun σ G3 => tRet (tVar 1) { nx := fun _ G => Q .non G, rt := Q } σ G3, rt := Q } ((L2.start ["_law_script", "_law_feed_here"] vs).set 1 (some v)) G2) E2 := by
  obtain ⟨a, ns, rfl, hs, hl, q⟩ := h
  refine ⟨.ref a, rfl, 63, rfl, a, ns.map V.int, rfl, hs, fun p hp => ?_⟩
  rw [cut63 hl]
  have l1 := le_new (o := .lst (ns.map V.int)) hp
  refine ⟨p, ns.map V.int, rfl, .inl (.inl upd_same), fun p2 hp2 => ?_⟩
  have l2 := le_new (o := .lst (ns.map V.int).reverse) hp2
  refine ⟨p2, ns.reverse, rfl, .inl (.inl (by rw [← List.map_reverse]; exact upd_same)), by rw [List.length_reverse]; exact hl, fun fa ca G hle n1 n2 hne e1 e2 => ?_⟩
  have back : ∀ {x : Addr}, upd (upd H p (.lst (ns.map V.int))) p2 (.lst (ns.map V.int).reverse) x = none → H x = none := fun {x} e => by
    cases z : H x with
    | none => rfl
    | some o =>
      have := l2 _ _ (l1 _ _ z)
      rw [e] at this
      cases this
  have fat : FeedAt ⟨fa, ca, G, fun b => if b = ca then G ca else none⟩ G (fun b => if b = ca then G ca else none) ⟨ns.reverse, 0, 0, 0⟩ := ⟨e1, if_neg hne, by
    show (if ca = ca then G ca else none) = _
    rw [if_pos rfl]
    exact e2⟩
  have put := feed_put (k := "turn") (i := 700) fat rfl
  refine ⟨.ref fa, rfl, fa, _, rfl, put, .ref fa, rfl, ?_⟩
  refine q fa ca _ (fun x o e => ?_) (back n1) (back n2) hne upd_same ?_
  · rw [upd_ne (fun z => by rw [z, back n1] at e; cases e)]
    exact hle _ _ (l2 _ _ (l1 _ _ e))
  · rw [upd_ne (Ne.symm hne)]
    exact e2
def isDatA : RV → Bool
  | .dat _ => true
  | _ => false
def cLater (F : Fn) (i : Nat) (xs : List Ex) : Ex := fun ρ f => match ρ[i]? with
  | some (.scr ns) => if ns.length ≤ 63 then (cVals xs ρ f).bind fun as f1 => if as.all isDatA = true then dt (F (.feed :: as) ⟨ns.reverse, 0, 0, 700⟩) fun d _ => .ok (.dat d) f1 else .no else .no
  | _ => .no
theorem ARels.dats {K : PySem.W.Frag} {g g2 : Gh} {HF : Hp} : ∀ {vs : List V} {as : List RV}, Paired (ARel K g HF) vs as → as.all isDatA = true → Paired (ARel K g2 HF) vs as
  | _, _, .nil, _ => .nil
  | _, a :: _, .cons h r, c => by
    simp only [List.all_cons, Bool.and_eq_true] at c
    refine .cons ?_ (ARels.dats r c.2)
    cases a with
    | dat d => exact h
    | own ds => exact absurd c.1 (by simp [isDatA])
    | lent i ds => exact absurd c.1 (by simp [isDatA])
    | feed => exact absurd c.1 (by simp [isDatA])
/-- the def that makes the second feed is there -/
def HasL (P : Program) (w : World) (K : PySem.W.Frag) (mg : Str → Option Value) (base : Heap) (k : Nat) (x : Str) : Prop :=
  ∃ f fd, mg x = some (.ref f) ∧ PySem.W.keepIn K (.ref f) = true ∧ Binds K fd ["_law_script"] [] ∧ FnG P w K mg base CX0 k f fd ["_law_script"] (spLater K)
theorem none_sub {HF H : Hp} (l : Le HF H) {a : Addr} (h : H a = none) : HF a = none := by
  cases e : HF a with
  | none => rfl
  | some o =>
    rw [l a o e] at h
    cases h
theorem de_later {X : Cx} {W : Wish} {k k2 : Nat} {x y sc : Str} {ps : List Str} {F : Fn} {i : Nat} {p p2 p3 p4 pos : Pos} {es : List Expr} {xs : List Ex} (h : Has X.prog X.w X.K X.mg X.base k x ps F) (hl : HasL X.prog X.w X.K X.mg X.base k2 y) (gd : X.A.guards = some [])
    (hr : Room k X.A) (hr2 : Room k2 X.A) (hg : Gl X x) (hg2 : Gl X y) (hv : PE X (.Name sc p3) (tVar i)) (ha : DA X W es xs) (hn : xs.length + 1 = ps.length := by rfl) (hdb : (x == ("__debug__" : Str)) = false := by decide) (hdb2 : (y == ("__debug__" : Str)) = false := by decide)
    (he : starEach (Expr.Call (.Name y p2) [.Name sc p3] [] p4 :: es) X.env = (false, eval (.Call (.Name y p2) [.Name sc p3] [] p4) X.env) :: starEach es X.env := by rfl) (hpl : (backTo pos (starEach es X.env)).any (·.1) = false := by rfl) :
    DE X W (.Call (.Name x p) (.Call (.Name y p2) [.Name sc p3] [] p4 :: es) [] pos) (cLater F i xs) := by
  obtain ⟨f, fd, hm, hk, hb, G, hno⟩ := h
  obtain ⟨f2, fd2, hm2, hk2, hb2, G2⟩ := hl
  have e1 := callG (E := fun _ _ _ => False) (pos := p4) (p := p2) G2 gd hr2 hg2 hm2 hk2 hb2 pass0 (pa_cons hv pa_nil) hdb2
  refine pe_mono (callG (E := fun _ _ _ => False) (pos := pos) (p := p) G gd hr hg hm hk hb pass0 (pa_cons e1 ha he) hdb he hpl) fun σ H Q h => ?_
  obtain ⟨g, HF, ρ, fe, rel, q⟩ := h
  unfold cLater at q
  split at q
  · rename_i ns z
    obtain ⟨a, z1, z2⟩ := rel.slot i _ z
    split at q
    · rename_i hlen
      refine ⟨.ref a, z1, a, ns, rfl, rel.sub.sqL z2, hlen, fun fa ca G hle n1 n2 hne e1 e2 => ?_⟩
      have s0 : Step g H HF G HF := ⟨fun b o _ e => hle _ _ e, Le.refl _, fun b _ e => e, rel.sub.trans hle⟩
      have hf0 : FeedAt g G HF fe := ⟨hle _ _ rel.feed.d, rel.feed.nf, rel.feed.c⟩
      have rel0 := rel.step s0 hf0
      refine vals_read xs rel0 (ROk.later q hf0 s0) fun as f1 vs I IF hlen2 r1 s1 drs q1 => ?_
      have gH : H g.fa ≠ none := rel.feed.ne
      have fa_ne : fa ≠ g.fa := fun e => gH (e ▸ n1)
      have ca_ne : ca ≠ g.fa := fun e => gH (e ▸ n2)
      have I_fa := s1.ext fa _ fa_ne e1
      have I_ca := s1.ext ca _ ca_ne e2
      have F_fa : IF fa = none := s1.new fa (mo e1) (none_sub rel.sub n1)
      have F_ca : IF ca = none := s1.new ca (mo e2) (none_sub rel.sub n2)
      have lu : Le IF (upd IF ca (.lst (ns.reverse.map V.int))) := le_new F_ca
      by_cases c : as.all isDatA = true
      · rw [if_pos c] at q1
        refine ⟨(congrArg (· + 1) hlen2).trans hn, ⟨fa, ca, I, upd IF ca (.lst (ns.reverse.map V.int))⟩, upd IF ca (.lst (ns.reverse.map V.int)), .feed :: as, ⟨ns.reverse, 0, 0, 700⟩, ⟨fun b o e => ?_, ⟨I_fa, ?_, upd_same⟩, .cons rfl (ARels.dats (ARels.mono lu drs) c)⟩, ?_⟩
        · by_cases hb : b = ca
          · subst hb
            rw [upd_same] at e
            rw [I_ca]
            exact e
          · rw [upd_ne hb] at e
            exact r1.sub _ _ e
        · show upd IF ca (.lst (ns.reverse.map V.int)) fa = none
          rw [upd_ne hne]
          exact F_fa
        · cases z3 : F (.feed :: as) ⟨ns.reverse, 0, 0, 700⟩ with
          | no =>
            rw [z3] at q1
            exact (show False from q1).elim
          | ex c v f => exact (hno _ _ _ _ _ z3).elim
          | ok rv f3 =>
            rw [z3] at q1
            intro v J JF s2 h2 rr
            cases z4 : rv.data with
            | none =>
              unfold dt R.bind at q1
              simp only [z4] at q1
              exact (show False from q1).elim
            | some d =>
              unfold dt R.bind at q1
              simp only [z4] at q1
              obtain ⟨KF, s3, h3, dr⟩ := rr.frz h2 s2 z4
              have gI : Mo I g.fa := mo r1.feed.d
              have up_none : ∀ {b : Addr}, b ≠ ca → IF b = none → upd IF ca (.lst (ns.reverse.map V.int)) b = none := fun {b} hb e => by
                rw [upd_ne hb]
                exact e
              refine (show Fin X.K g σ H HF Q (.dat d) f1 from q1) v J KF ⟨fun b o hb e => ?_, s1.le.trans (lu.trans s3.le), fun b hb e => ?_, s3.sub⟩ ⟨?_, ?_, ?_⟩ dr
              · have : b ≠ fa := fun z => by
                  rw [z, n1] at e
                  cases e
                exact s3.ext b o this (s1.ext b o hb (hle _ _ e))
              · have hb1 : b ≠ ca := fun z => hb.some (z ▸ n2)
                have hG : Mo G b := by
                  obtain ⟨o, e1, e2⟩ := hb
                  exact ⟨o, hle _ _ e1, e2⟩
                exact s3.new b (s1.liveM r1.feed hG) (up_none hb1 (s1.new b hG e))
              · exact s3.ext _ _ (Ne.symm fa_ne) r1.feed.d
              · exact s3.new _ gI (up_none (Ne.symm ca_ne) r1.feed.nf)
              · exact s3.le _ _ (lu _ _ r1.feed.c)
      · rw [if_neg c] at q1
        exact (show False from q1).elim
    · exact (show False from q).elim
  · exact (show False from q).elim
theorem scr_hf {K : PySem.W.Frag} {H1 H : Hp} {a fa ca : Addr} {xs ys : List V} (hS : SqL K H1 a xs) (hle : Le H1 H) (n1 : H1 fa = none) (n2 : H1 ca = none) (hfc : fa ≠ ca) (h2 : H ca = some (.lst ys)) :
    ∃ HF : Hp, Le HF H ∧ HF fa = none ∧ HF ca = some (.lst ys) ∧ SqL K HF a xs := by
  have own : ∀ u : HO, H1 a = some u → ∃ HF : Hp, Le HF H ∧ HF fa = none ∧ HF ca = some (.lst ys) ∧ HF a = some u := fun u e => by
    have na : a ≠ fa := ne_of_none e n1
    refine ⟨fun b => if b = ca ∨ b = a then H b else none, fun b o z => ?_, ?_, ?_, ?_⟩
    · replace z : (if b = ca ∨ b = a then H b else none) = some o := z
      by_cases c : b = ca ∨ b = a
      · rw [if_pos c] at z
        exact z
      · rw [if_neg c] at z
        cases z
    · exact if_neg (fun z => z.elim hfc (fun z => na z.symm))
    · show (if ca = ca ∨ ca = a then H ca else none) = _
      rw [if_pos (.inl rfl)]
      exact h2
    · show (if a = ca ∨ a = a then H a else none) = _
      rw [if_pos (.inr rfl)]
      exact hle _ _ e
  rcases hS with (h | ⟨o, h⟩) | h
  · obtain ⟨HF, q1, q2, q3, q4⟩ := own _ h
    exact ⟨HF, q1, q2, q3, .inl (.inl q4)⟩
  · obtain ⟨HF, q1, q2, q3, q4⟩ := own _ h
    exact ⟨HF, q1, q2, q3, .inl (.inr ⟨o, q4⟩)⟩
  · refine ⟨fun b => if b = ca then H ca else none, fun b o z => ?_, if_neg hfc, ?_, .inr h⟩
    · replace z : (if b = ca then H ca else none) = some o := z
      by_cases c : b = ca
      · rw [if_pos c] at z
        rw [c]
        exact z
      · rw [if_neg c] at z
        cases z
    · show (if ca = ca then H ca else none) = _
      rw [if_pos rfl]
      exact h2
theorem law_rest2 {K : PySem.W.Frag} {mg : Str → Option Value} {s : Sm} {n : Nat} {fa ca a : Addr} {ns : List Int} {H1 H : Hp} {Q : VK} (N : List Str) (hN : N.length = n + 2) (hS : SqL K H1 a (ns.map V.int)) (hle : Le H1 H) (n1 : H1 fa = none) (n2 : H1 ca = none) (hfc : fa ≠ ca)
    (h1 : H fa = some (feedK ca 0)) (h2 : H ca = some (.lst (ns.map V.int)))
    (fin : ∃ f, s (.scr ns :: .feed :: List.replicate n .emp) (feed0 ns) = .ok (.rt (.dat (.bool true))) f) (q : ∀ G, Q (.bl true) G) :
    tDS K mg (fun _ _ _ => False) s { nx := fun _ G => Q .non G, rt := Q } ((L2.start N [.ref a]).set 1 (some (.ref fa))) H := by
  obtain ⟨f, e⟩ := fin
  obtain ⟨HF, q1, q2, q3, q4⟩ := scr_hf hS hle n1 n2 hfc h2
  have hs : (L2.start N [.ref a]).set 1 (some (.ref fa)) = some (.ref a) :: some (.ref fa) :: List.replicate n none := by
    unfold L2.start
    rw [hN]
    rfl
  rw [hs]
  refine ⟨⟨fa, ca, H, HF⟩, HF, .scr ns :: .feed :: List.replicate n .emp, feed0 ns, ⟨q1, ⟨h1, q2, q3⟩, fun _ _ _ z => z, Le.refl _, fun _ _ z => z, ?_, fun i x z => ?_, fun i j ds es z => ?_, fun i j ds es z => ?_, BdSep.noBd fun i ds z => ?_⟩, ?_⟩
  · simp
  · match i, z with
    | 0, z =>
      cases z
      exact ⟨a, rfl, q4⟩
    | 1, z => cases z; rfl
    | i + 2, z =>
      have z2 : (List.replicate n Slot.emp)[i]? = some x := z
      rw [rep_get z2]
      trivial
  · match i, z with
    | 0, z => cases z
    | 1, z => cases z
    | i + 2, z =>
      have z2 : (List.replicate n Slot.emp)[i]? = some (.own ds) := z
      cases rep_get z2
  · match i, z with
    | 0, z => cases z
    | 1, z => cases z
    | i + 2, z =>
      have z2 : (List.replicate n Slot.emp)[i]? = some (.dct ds) := z
      cases rep_get z2
  · match i, z with
    | 0, z => cases z
    | 1, z => cases z
    | i + 2, z =>
      have z2 : (List.replicate n Slot.emp)[i]? = some (.brd ds) := z
      cases rep_get z2
  · rw [e]
    intro v G GF r
    cases (show DR K GF v (.bool true) from r.val)
    exact q G
theorem e_later {F : Fn} {i : Nat} {xs : List Ex} {ρ : Rho} {f : Feed} {ns : List Int} (h : ρ[i]? = some (.scr ns)) (hl : ns.length ≤ 63) : cLater F i xs ρ f = (cVals xs ρ f).bind fun as f1 => if as.all isDatA = true then dt (F (.feed :: as) ⟨ns.reverse, 0, 0, 700⟩) fun d _ => .ok (.dat d) f1 else .no := by
  unfold cLater
  simp only [h]
  rw [if_pos hl]
end Dn
end
section
set_option maxHeartbeats 4000000
namespace Dn
open PySem PySem.Spec L2
def strsD : List PyData → Option (List Str)
  | [] => some []
  | .str x :: r => (strsD r).map (x :: ·)
  | _ :: _ => none
theorem strsD_map : ∀ ys : List Str, strsD (ys.map PyData.str) = some ys
  | [] => rfl
  | y :: ys => by
    rw [List.map_cons, strsD, strsD_map ys]
    rfl
theorem strs_vs {K : PySem.W.Frag} {H : Hp} : ∀ {vs : List V} {ds : List PyData} {ys : List Str}, DRs K H vs ds → strsD ds = some ys → vs = ys.map V.str
  | _, _, _, .nil, h => by
    cases h
    rfl
  | _, d :: _, _, .cons a r, h => by
    cases d <;> try cases h
    rename_i ds x
    rw [strsD] at h
    obtain ⟨zs, e, rfl⟩ := Option.map_eq_some_iff.mp h
    cases a
    rw [List.map_cons, strs_vs r e]
theorem drs_strs {K : PySem.W.Frag} {H : Hp} : ∀ ys : List Str, DRs K H (ys.map V.str) (ys.map PyData.str)
  | [] => .nil
  | y :: ys => .cons (.str y) (drs_strs ys)
/-- a text's own call, of one thing -/
def cMetS (o : Op2) (a b : Ex) : Ex := fun ρ f => pk (a ρ f) fun d f1 => match d with
  | .str x => pk (b ρ f1) fun e f2 => give (o (.str x) e) f2
  | _ => .no
section
variable {W : Wish} {K : PySem.W.Frag} {mg : Str → Option Value} {fa fb : Ex} {r : V → List V → Hp → VK → Prop} {o : Op2}
theorem met_read (hb : BinOk K (fun x y H Q => r x [y] H Q) o) {σ : St} {H : Hp} {Q : VK} (h : tD K mg W (cMetS o fa fb) σ H Q) : tM1 r (tD K mg W fa) (tD K mg W fb) σ H Q := by
  obtain ⟨g, HF, ρ, f, rel, q⟩ := h
  refine tD_pk rel q fun d f1 x G GF r1 s1 t1 q1 => ?_
  cases d <;> try exact (show False from q1).elim
  rename_i z
  refine ⟨⟨z, t1.str⟩, tD_pk r1 q1 fun e f2 y I IF r2 s2 t2 q2 => ?_⟩
  obtain ⟨rv, z2, k⟩ := give_end r2.feed (s1.trans r1.feed s2) q2
  exact hb g I IF f2 x y _ e rv ⟨r2.sub, r2.feed⟩ (t1.step s2) t2 z2 Q k
end
def oSplit : Op2
  | .str a, .str b => if (b.length == 0) = false ∧ a.length ≤ 100000 then some (.own ((Txt.split a b).map .str)) else none
  | _, _ => none
def rSplit : V → List V → Hp → VK → Prop := fun x xs H Q => ∃ a b, x = .str a ∧ xs = [.str b] ∧ (b.length == 0) = false ∧ a.length + 2 ≤ sizeLine ∧ rNewStrs (Txt.split a b) H Q
theorem oSplit_ok {K : PySem.W.Frag} : BinOk K (fun x y H Q => rSplit x [y] H Q) oSplit := fun g H HF f x y d e rv a t u z Q k => by
  cases d <;> try cases z
  cases e <;> try cases z
  rename_i p q
  obtain ⟨c, rfl⟩ := ite_some (show (if (q.length == 0) = false ∧ p.length ≤ 100000 then some (RV.own ((Txt.split p q).map .str)) else none) = some rv from z)
  exact ⟨p, q, t.str, by rw [u.str], c.1, by rw [sizeLine_eq]; omega, fun n hn => k.newL a (drs_strs _) n hn⟩
def oJoin : Op2
  | .str a, e => match seqOf e with
    | some ds => match strsD ds with
      | some ys => if (ys.map (·.length)).sum + ys.length * a.length ≤ 1000000 then some (.dat (.str (Txt.join a ys))) else none
      | none => none
    | none => none
  | _, _ => none
def rJoin (K : PySem.W.Frag) : V → List V → Hp → VK → Prop := fun x xs H Q => ∃ a p, ∃ ys : List Str, x = .str a ∧ xs = [.ref p] ∧ (SqL K H p (ys.map V.str) ∨ SqT K H p (ys.map V.str)) ∧
    (ys.map (·.length)).sum + ys.length * a.length ≤ 16777216 ∧ Q (.str (Txt.join a ys)) H
theorem oJoin_ok {K : PySem.W.Frag} : BinOk K (fun x y H Q => rJoin K x [y] H Q) oJoin := fun g H HF f x y d e rv a t u z Q k => by
  cases d <;> try cases z
  rename_i p
  unfold oJoin at z
  simp only at z
  cases q : seqOf e with
  | none => rw [q] at z; cases z
  | some ds =>
    rw [q] at z
    simp only at z
    cases q2 : strsD ds with
    | none => rw [q2] at z; cases z
    | some ys =>
      rw [q2] at z
      obtain ⟨c, rfl⟩ := ite_some z
      obtain ⟨n, vs, rfl, hs, r⟩ := u.seq a.sub q
      have := strs_vs r q2
      subst this
      exact ⟨p, n, ys, t.str, rfl, hs, by omega, k.now a (.str _)⟩
def oLenS : Op1
  | .str a => if a.length ≤ 100000 then some (.dat (.int a.length)) else none
  | _ => none
def oLenA : Op1 := fun d => (oLen d).or (oLenS d)
theorem UnOk.orT {K : PySem.W.Frag} {r r2 : V → Hp → VK → Prop} {o o2 : Op1} (h : UnOk K r o) (h2 : UnOk K r2 o2) : UnOk K (fun x H Q => r x H Q ∨ r2 x H Q) fun d => (o d).or (o2 d) := fun g H HF f x d rv a t z Q k => by
  replace z : (o d).or (o2 d) = some rv := z
  cases q : o d with
  | some w =>
    rw [q] at z
    exact .inl (h g H HF f x d rv a t (q.trans z) Q k)
  | none =>
    rw [q] at z
    exact .inr (h2 g H HF f x d rv a t z Q k)
theorem oLenS_ok {K : PySem.W.Frag} : UnOk K (fun v H Q => ∃ z, [v] = [V.str z] ∧ z.length ≤ sizeLine ∧ Q (.int z.length) H) oLenS := fun g H HF f x d rv a t z Q k => by
  cases d <;> try cases z
  rename_i p
  obtain ⟨c, rfl⟩ := ite_some (show (if p.length ≤ 100000 then some (RV.dat (.int p.length)) else none) = some rv from z)
  exact ⟨p, by rw [t.str], line5 c, k.now a (.int _)⟩
/-- one sign in a text -/
def oInSg (neg : Bool) : Op2
  | .str a, .str z => match a.cps.toList with
    | [c] => some (.dat (.bool (neg ^^ decide (c ∈ z.cps.toList))))
    | _ => none
  | _, _ => none
theorem one_sign {a : Str} {c : Nat} (h : a.cps.toList = [c]) : a = ⟨#[c]⟩ := by
  obtain ⟨x⟩ := a
  simp only at h
  rw [← Array.toArray_toList (xs := x), h]
theorem oInSg_ok {K : PySem.W.Frag} {neg : Bool} : BinOk K (fun x y H Q => ∃ (c : Nat) (z : Str), x = .str ⟨#[c]⟩ ∧ y = .str z ∧ Q (.bl (neg ^^ decide (c ∈ z.cps.toList))) H) (oInSg neg) := fun g H HF f x y d e rv a t u z Q k => by
  cases d <;> try cases z
  cases e <;> try cases z
  rename_i p q
  unfold oInSg at z
  simp only at z
  split at z
  · rename_i c hc
    cases z
    exact ⟨c, q, by rw [t.str, one_sign hc], u.str, k.now a (.bl _)⟩
  · cases z
def signsD (z : Str) : List PyData := z.cps.toList.map fun c => .str ⟨#[c]⟩
def iStrX (e : Ex) : Ix := fun ρ f => pk (e ρ f) fun d f1 => match d with
  | .str z => .ok (signsD z) f1
  | _ => .no
theorem signs_len (z : Str) : (signsD z).length = z.cps.size := by
  unfold signsD
  rw [List.length_map, Array.length_toList]
theorem yields_str {K : PySem.W.Frag} {GF : Hp} {z : Str} : Yields K (Its z) GF (signsD z) where
  go := fun i I IF l1 l2 hi => by
    rw [signs_len] at hi
    exact hi
  yld := fun i I IF x I2 l1 l2 hi y => by
    obtain ⟨rfl, c, hc, rfl⟩ := y
    refine ⟨IF, .str ⟨#[c]⟩, ?_, New.refl l2, .str _⟩
    unfold signsD
    rw [List.getElem?_map, Array.getElem?_toList, hc]
    rfl
  stop := fun i I IF l1 l2 hi => by
    rw [signs_len] at hi
    exact Nat.le_of_eq hi.symm
section
variable {X : Cx} {W : Wish} {tg a b : Expr} {fa fb : Ex} {p pos apos : Pos}
theorem de_split (ha : DE X W a fa) (hb : DE X W b fb) (hs : starEach [b] X.env = [(false, eval b X.env)] := by rfl) (hbase : attributeBase a "split" X.env (eval a X.env) = eval a X.env := by rfl) (hline : (apos.endLine == pos.line) = true := by rfl) :
    DE X W (.Call (.Attribute a "split" apos) [b] [] pos) (cMetS oSplit fa fb) := pe_mono (pe_split ha hb hs hbase hline) fun _ _ _ h => met_read oSplit_ok h
theorem de_join (ha : DE X W a fa) (hb : DE X W b fb) (hs : starEach [b] X.env = [(false, eval b X.env)] := by rfl) (hbase : attributeBase a "join" X.env (eval a X.env) = eval a X.env := by rfl) (hline : (apos.endLine == pos.line) = true := by rfl) :
    DE X W (.Call (.Attribute a "join" apos) [b] [] pos) (cMetS oJoin fa fb) := pe_mono (pe_join ha hb hs hbase hline) fun _ _ _ h => met_read oJoin_ok h
theorem de_lenA (hg : Gl X "len") (hm : X.mg "len" = none) (ha : DE X W a fa) (he : starEach [a] X.env = (false, eval a X.env) :: starEach [] X.env := by rfl) : DE X W (.Call (.Name "len" p) [a] [] pos) (cUn oLenA fa) :=
  de_call1 (call_len_seq.or call_len_str) (oLen_ok.orT oLenS_ok) hg hm (by decide +kernel) ha (by decide) (by decide) he
theorem de_inSg (ha : DE X W a fa) (hb : DE X W b fb) (hm : behindInMarks .In b = false := by rfl) : DE X W (.Compare a [.In] [b] pos) (cBin (oInSg false) fa fb) :=
  de_cmp op_in_sign (fun g H HF f x y d e rv a t u z Q k => by
    obtain ⟨c, w, h1, h2, h3⟩ := oInSg_ok g H HF f x y d e rv a t u z Q k
    exact ⟨c, w, h1, h2, by simpa using h3⟩) ha hb hm
theorem inSgT {K : PySem.W.Frag} : BinOk K (fun x y H Q => ∃ (c : Nat) (z : Str), x = .str ⟨#[c]⟩ ∧ y = .str z ∧ Q (.bl (!decide (c ∈ z.cps.toList))) H) (oInSg true) := fun g H HF f x y d e rv a t u z Q k => by
  obtain ⟨c, w, h1, h2, h3⟩ := oInSg_ok g H HF f x y d e rv a t u z Q k
  exact ⟨c, w, h1, h2, by simpa using h3⟩
theorem dt_ninSg (ha : DE X W a fa) (hb : DE X W b fb) (hm : behindInMarks .NotIn b = false := by rfl) : DT X W (.Compare a [.NotIn] [b] pos) (cT (cBin (oInSg true) fa fb)) := dt_cmp op_notIn_sign inSgT ha hb hm
theorem di_str (h : DE X W a fa) : DI X W tg a (iStrX fa) := pi_mono (pi_str h) fun σ H Z ⟨g, HF, ρ, f, rel, q⟩ =>
  tD_pk rel q fun d f1 v G GF r1 s1 dr q1 => by
    cases d <;> try exact (show False from q1).elim
    exact ⟨_, dr.str, q1 _ G GF s1 r1.feed yields_str⟩
end
def cSlS (a : Ex) (lo hi : Option Ex) : Ex := fun ρ f => pk (a ρ f) fun x f1 => partX lo ρ f1 fun i f2 => partX hi ρ f2 fun j f3 => match x with
  | .str z => if z.length ≤ 100000 then .ok (.dat (.str (cutS z i j))) f3 else .no
  | _ => .no
theorem slS_read {K : PySem.W.Frag} {mg : Str → Option Value} {W : Wish} {σ : St} {H : Hp} {fa : Ex} {lo hi : Option Ex} {Q : VK} (h : tD K mg W (cSlS fa lo hi) σ H Q) : tSl rSlS (tD K mg W fa) (partT K mg W lo) (partT K mg W hi) σ H Q := by
  obtain ⟨g, HF, ρ, f, rel, q⟩ := h
  refine tD_pk rel q fun d f1 x G GF r1 s1 t1 q1 => part_read r1 q1 fun i f2 I IF r2 s2 q2 => part_read r2 q2 fun j f3 J JF r3 s3 q3 => ?_
  have t3 := t1.step (s2.trans r2.feed s3)
  have st := s1.trans r1.feed (s2.trans r2.feed s3)
  cases d <;> try exact (show False from q3).elim
  rename_i z
  by_cases c : z.length ≤ 100000
  · simp only [if_pos c] at q3
    obtain ⟨rv, e, k⟩ := give_end (x := some (.dat (.str (cutS z i j)))) r3.feed st q3
    cases e
    exact ⟨z, t3.str, line5 c, k.now ⟨r3.sub, r3.feed⟩ (.str _)⟩
  · simp only [if_neg c] at q3
    exact (show False from q3).elim
theorem de_sliceS {X : Cx} {W : Wish} {e : Expr} {fa : Ex} {lo hi : Option Expr} {xl xh : Option Ex} {p2 pos : Pos} (he : DE X W e fa) (hl : PO X lo (partT X.K X.mg W xl)) (hh : PO X hi (partT X.K X.mg W xh)) :
    DE X W (.Subscript e (.Slice lo hi none p2) pos) (cSlS fa xl xh) := pe_mono (pe_slice sl_str he hl hh) fun _ _ _ h => slS_read h
end Dn
end
section
set_option maxHeartbeats 4000000
namespace L2
open PySem PySem.Spec PyProof.Rows PySem.W PySem.Calls Builtin Srt
section
variable {P : Program} {w : World} {A : Around} {E : Value → Shared → Prop} {s : Shared}
end
section
variable {X : Cx}
end
end L2
namespace Dn
open PySem PySem.Spec L2
def ddp : List (List Int) → List (List Int)
  | [] => []
  | k :: r => if k ∈ r then ddp r else k :: ddp r
/-- sorted(set(xs)) -/
def oSortSet : Op1
  | .list ds => match tupsOf ds with
    | some ks => if ks.length < 64 then some (.own ((sortL (ddp ks)).map tupI)) else none
    | none => none
  | _ => none
section
variable {X : Cx} {W : Wish} {a : Expr} {fa : Ex} {p p2 pos pos2 : Pos}
end
@[simp] theorem oSortSet_list {ks : List (List Int)} : oSortSet (.list (ks.map tupI)) = if ks.length < 64 then some (.own ((sortL (ddp ks)).map tupI)) else none := by
  show (match tupsOf (ks.map tupI) with
    | some ks => if ks.length < 64 then some (RV.own ((sortL (ddp ks)).map tupI)) else none
    | none => none) = _
  rw [tupsOf_map]
end Dn
end
section
set_option maxHeartbeats 4000000
namespace L2
open PySem PySem.Spec PyProof.Rows PySem.W PySem.Calls Builtin Srt
section
variable {X : Cx}
end
end L2
namespace Dn
open PySem PySem.Spec L2
def ddi : List Int → List Int
  | [] => []
  | k :: r => if k ∈ r then ddi r else k :: ddi r
/-- unlike numbers, rising -/
def riseI (l : List Int) : List Int := (ddi l).mergeSort fun x y => decide (x ≤ y)
/-- sorted(set(xs)) of a tuple of whole numbers -/
def oSortSetI : Op1
  | .tuple ds => match intsOf ds with
    | some ns => if ns.length ≤ 4000 ∧ (ddi ns).length < 64 then some (.own ((riseI ns).map .int)) else none
    | none => none
  | _ => none
section
variable {X : Cx} {W : Wish} {a : Expr} {fa : Ex} {p p2 pos pos2 : Pos}
end
@[simp] theorem oSortSetI_tuple {ns : List Int} : oSortSetI (.tuple (ns.map .int)) = if ns.length ≤ 4000 ∧ (ddi ns).length < 64 then some (.own ((riseI ns).map .int)) else none := by
  show (match intsOf (ns.map .int) with
    | some ns => if ns.length ≤ 4000 ∧ (ddi ns).length < 64 then some (RV.own ((riseI ns).map .int)) else none
    | none => none) = _
  rw [intsOf_map]
end Dn
end
section
set_option maxHeartbeats 4000000
namespace L2
open PySem PySem.Spec PyProof.Rows PySem.W PySem.Calls Builtin Srt
section
variable {P : Program} {w : World} {A : Around} {E : Value → Shared → Prop} {s : Shared}
end
section
variable {X : Cx}
end
end L2
namespace Dn
open PySem PySem.Spec L2
/-- sorted(set(xs)) of a list of whole numbers -/
def oSortSetL : Op1
  | .list ds => match intsOf ds with
    | some ns => if ns.length ≤ 4000 ∧ (ddi ns).length < 64 then some (.own ((riseI ns).map .int)) else none
    | none => none
  | _ => none
section
variable {X : Cx} {W : Wish} {a : Expr} {fa : Ex} {p p2 pos pos2 : Pos}
end
@[simp] theorem oSortSetL_list {ns : List Int} : oSortSetL (.list (ns.map .int)) = if ns.length ≤ 4000 ∧ (ddi ns).length < 64 then some (.own ((riseI ns).map .int)) else none := by
  show (match intsOf (ns.map .int) with
    | some ns => if ns.length ≤ 4000 ∧ (ddi ns).length < 64 then some (RV.own ((riseI ns).map .int)) else none
    | none => none) = _
  rw [intsOf_map]
end Dn
end
section
set_option maxHeartbeats 4000000
namespace Dn
open PySem
/-- the unlike ones, as first met -/
def addU (l : List Str) (x : Str) : List Str := if x ∈ l then l else l ++ [x]
def unlike (l : List Str) : List Str := l.foldl addU []
end Dn
namespace L2
open PySem PySem.Spec PyProof.Rows PySem.W PySem.Calls Builtin Srt Dn
section
variable {P : Program} {w : World} {A : Around} {E : Value → Shared → Prop} {s : Shared}
end
section
variable {X : Cx}
end
end L2
namespace Dn
open PySem PySem.Spec L2
section
variable {X : Cx} {W : Wish} {a : Expr} {fa : Ex} {p p2 q pos : Pos}
end
end Dn
end
namespace Dn
open PySem PySem.Spec L2
section
variable {ρ : Rho} {f : Feed} {o : Op2} {a b : Ex} {lo hi : Option Ex} {x y : Str} {ds : List PyData}
@[simp] theorem e_metS : cMetS o a b ρ f = pk (a ρ f) fun d f1 => match d with
  | .str x => pk (b ρ f1) fun e f2 => give (o (.str x) e) f2
  | _ => .no := nr rfl
@[simp] theorem e_iStrX : iStrX a ρ f = pk (a ρ f) fun d f1 => match d with
  | .str z => .ok (signsD z) f1
  | _ => .no := nr rfl
@[simp] theorem e_slS : cSlS a lo hi ρ f = pk (a ρ f) fun x f1 => partX lo ρ f1 fun i f2 => partX hi ρ f2 fun j f3 => match x with
  | .str z => if z.length ≤ 100000 then .ok (.dat (.str (cutS z i j))) f3 else .no
  | _ => .no := nr rfl
@[simp] theorem oLenA_list : oLenA (.list ds) = some (.dat (.int ds.length)) := nr rfl
@[simp] theorem oLenA_tuple : oLenA (.tuple ds) = some (.dat (.int ds.length)) := nr rfl
@[simp] theorem oLenA_str : oLenA (.str x) = if x.length ≤ 100000 then some (.dat (.int x.length)) else none := nr rfl
@[simp] theorem oSplit_str : oSplit (.str x) (.str y) = if (y.length == 0) = false ∧ x.length ≤ 100000 then some (.own ((Txt.split x y).map .str)) else none := nr rfl
theorem oJoin_list {ys : List Str} (h : (ys.map fun (t : Str) => t.length).sum + ys.length * x.length ≤ 1000000) : oJoin (.str x) (.list (ys.map .str)) = some (.dat (.str (Txt.join x ys))) := by
  show (match strsD (ys.map .str) with
    | some ys => if (ys.map fun (t : Str) => t.length).sum + ys.length * x.length ≤ 1000000 then some (RV.dat (.str (Txt.join x ys))) else none
    | none => none) = _
  rw [strsD_map]
  exact if_pos h
end
end Dn
section
set_option maxHeartbeats 4000000
namespace Dn
open PySem PySem.Spec L2 PyProof.Rows
def revS (z : Str) : Str := ⟨z.cps.toList.reverse.toArray⟩
theorem fm_rev {α : Type} (xs : Array α) : ∀ n, n ≤ xs.size → ((List.range n).filterMap fun (m : Nat) => xs[xs.size - 1 - m]?) = xs.toList.reverse.take n := by
  intro n
  induction n with
  | zero => intro _; rfl
  | succ n ih =>
    intro h
    rw [List.range_succ, List.filterMap_append, ih (by omega)]
    have h2 : xs.size - 1 - n < xs.size := by omega
    have h3 : n < xs.toList.reverse.length := by rw [List.length_reverse, Array.length_toList]; omega
    rw [List.take_succ, List.getElem?_reverse (by rw [Array.length_toList]; omega), Array.getElem?_toList, Array.length_toList]
    simp only [List.filterMap_cons, List.filterMap_nil, Array.getElem?_eq_getElem h2, Option.toList]
theorem revS_picked (z : Str) : ((Builtin.Str.strSliceIndices none none (-1) z.length).filterMap (z.cps[·]?)) = z.cps.toList.reverse := by
  have e : Builtin.Str.strSliceIndices none none (-1) z.length = (List.range z.length).map fun (m : Nat) => z.cps.size - 1 - m := by
    show sliceRange (((z.length : Nat) : Int) - 1) (-1) (-1) = _
    unfold sliceRange
    have hz : z.length = z.cps.size := rfl
    by_cases c : ((z.length : Nat) : Int) - 1 > -1
    · have e3 : ((((z.length : Nat) : Int) - 1 - -1 - -1 - 1) / (- -1)).toNat = z.length := by
        rw [show (- -1 : Int) = 1 from rfl, Int.ediv_one]
        omega
      simp only [show ¬ ((-1 : Int) > 0) by decide, if_false, if_pos c, e3]
      refine List.map_congr_left fun k hk => ?_
      have := List.mem_range.mp hk
      omega
    · have : z.length = 0 := by omega
      rw [this]
      simp
  rw [e, List.filterMap_map]
  have := fm_rev z.cps z.length (Nat.le_refl _)
  rw [List.take_of_length_le (by rw [List.length_reverse, Array.length_toList]; exact Nat.le_refl _)] at this
  exact this
def tRevS (te : TE) : TE := fun σ H Q => te σ H fun x H1 => ∃ z, x = .str z ∧ z.length ≤ sizeLine ∧ Q (.str (revS z)) H1
section
variable {X : Cx}
theorem pe_revS {e : Expr} {te : TE} {k : Nat} {p1 p2 p3 pos : Pos} (he : PE X e te) : PE X (.Subscript e (.Slice none none (some (.UnaryOp .USub (.Constant (.int 1) k p1) p2)) p3) pos) (tRevS te) := by
  refine ⟨fun pins s σ H Q I h => ?_⟩
  refine Subscript_ (thn (he.run pins s σ H _ I h) fun v s1 ⟨x, H1, I1, r1, q1⟩ => ?_)
  obtain ⟨z, ex, hz, q⟩ := q1
  subst ex
  obtain ⟨t, rfl⟩ := r1
  have hst : PO X (some (.UnaryOp .USub (.Constant (.int 1) k p1) p2)) (tPart (tUn (rU fun i => .int (-i)) (tC (.int 1)))) := po_some (pe_un un_neg pe_int)
  refine wpAny_Slice (thn (po_none.run pins s1 σ H1 (fun o H2 => o = none ∧ H2 = H1) I1 ⟨rfl, rfl⟩) fun vl s2 ⟨l, H2, I2, pl, el, e2⟩ => ?_)
  subst el e2
  refine thn (po_none.run pins s2 σ H2 (fun o H3 => o = none ∧ H3 = H2) I2 ⟨rfl, rfl⟩) fun vu s3 ⟨u, H3, I3, pu, eu, e3⟩ => ?_
  subst eu e3
  refine thn (hst.run pins s3 σ H3 (fun o H4 => o = some (-1) ∧ H4 = H3) I3 ⟨1, rfl, -1, rfl, rfl, rfl⟩) fun vs s4 ⟨o, H4, I4, ps, eo, e4⟩ => ?_
  subst eo e4
  have I5 : Inv X pins σ H4 { s4 with heap := s4.heap.push { cls := .type "slice", data := .fields #[vl, vu, vs] } } := I4.kept (t' := s4.toks) fun b ob q => Heap.get?_push_of_some _ q
  show wpAny (model X.prog X.w) X.A (subscriptTail e (.Slice none none (some (.UnaryOp .USub (.Constant (.int 1) k p1) p2)) p3) (.str z t) (.ref s4.heap.objs.size)) (EP X pins σ Q) X.xe { s4 with heap := s4.heap.push { cls := .type "slice", data := .fields #[vl, vu, vs] } }
  refine tail_any (ops := [.str z t, .ref s4.heap.objs.size]) (typeIs_str _ _ _) (PySem.F.slot_str_getitem.lookup) ?_ (by with_unfolding_all rfl)
  obtain ⟨os, hos, hcs, hds⟩ := Heap.IsSliceOf.new s4.heap vl vu vs
  obtain ⟨l, rfl, hl⟩ := IsPart.raw pl
  obtain ⟨u, rfl, hu⟩ := IsPart.raw pu
  obtain ⟨st, rfl, hs⟩ := IsPart.raw ps
  have el : l = none := by
    cases l with
    | none => rfl
    | some p => cases hl
  have eu : u = none := by
    cases u with
    | none => rfl
    | some p => cases hu
  subst el eu
  refine wpAny_getItem_str_slice (l := none) (u := none) (st := st) ⟨os, hos, hcs, hds⟩ (by rw [hs]; rfl) ?_
  have e1 : ((st.map (·.1)).getD 1) = -1 := by rw [hs]; rfl
  unfold sliceMade slicePicked
  rw [e1]
  have ne : ¬ (((-1 : Int) == 1 && (Builtin.Str.strSliceIndices ((none : Option (Int × Tok)).map (·.1)) ((none : Option (Int × Tok)).map (·.1)) (-1) z.length).length == z.length) = true) := by
    rw [show ((-1 : Int) == 1) = false from rfl, Bool.false_and]
    decide
  rw [if_neg ne]
  show Made.post (Made.str ⟨((Builtin.Str.strSliceIndices none none (-1) z.length).filterMap (z.cps[·]?)).toArray⟩) _ _
  rw [revS_picked]
  exact ⟨by show z.cps.toList.reverse.toArray.size ≤ sizeLine; rw [List.size_toArray, List.length_reverse, Array.length_toList]; exact hz, .str _, H4, I5.tok _, ⟨_, rfl⟩, q⟩
def oRevS : Op1
  | .str z => if z.length ≤ 100000 then some (.dat (.str (revS z))) else none
  | _ => none
theorem de_revS {W : Wish} {a : Expr} {fa : Ex} {pos : Pos} {k : Nat} {p1 p2 p3 : Pos} (he : DE X W a fa) : DE X W (.Subscript a (.Slice none none (some (.UnaryOp .USub (.Constant (.int 1) k p1) p2)) p3) pos) (cUn oRevS fa) := pe_mono (pe_revS he) fun σ H Q ⟨g, HF, ρ, f, rel, q⟩ => tD_pk rel q fun d f1 x G GF r1 s1 t1 q1 => by
  obtain ⟨rv, z, k⟩ := give_end r1.feed s1 q1
  have a : At X.K g G GF f1 := ⟨r1.sub, r1.feed⟩
  cases d <;> try cases z
  rename_i y
  by_cases c : y.length ≤ 100000
  · simp only [oRevS, if_pos c] at z
    cases z
    exact ⟨y, t1.str, line5 c, k.now a (.str _)⟩
  · simp only [oRevS, if_neg c] at z
    cases z
end
end Dn
end
section
set_option maxHeartbeats 4000000
namespace Dn
open PySem PySem.Spec L2 PyProof.Rows
def cPick (F1 F2 : Fn) (fi : Ex) (xs : List Ex) : Ex := fun ρ f => pk (fi ρ f) fun d f1 => match d with
  | .int i => if i = 0 then cCall F1 xs ρ f1 else if i = 1 then cCall F2 xs ρ f1 else .no
  | _ => .no
def tPick (K : PySem.W.Frag) (f1 f2 : Addr) (sp1 sp2 : Sp) (E : XK) (ti : TE) (t : TA) : TE := fun σ H Q => tOp (rIx K) (tLst (tCons (tC (.ref f1)) (tCons (tC (.ref f2)) tNil))) ti σ H fun y H1 => (y = .ref f1 ∧ t σ H1 fun vs G => sp1 vs G Q E) ∨ (y = .ref f2 ∧ t σ H1 fun vs G => sp2 vs G Q E)
section
variable {X : Cx} {CX : CXT} {k1 k2 : Nat} {f1 f2 : Addr} {fd1 fd2 : FuncData} {ps1 ps2 : List Str} {sp1 sp2 : Sp} {E : XK} {x1 x2 : Str} {p1 p2 lp ip pos : Pos} {idx e : Expr} {es : List Expr} {t : TA} {ti : TE}
theorem pe_pick (F1 : FnG X.prog X.w X.K X.mg X.base CX k1 f1 fd1 ps1 sp1) (F2 : FnG X.prog X.w X.K X.mg X.base CX k2 f2 fd2 ps2 sp2) (gd : X.A.guards = some []) (hr1 : Room k1 X.A) (hr2 : Room k2 X.A) (hg1 : Gl X x1) (hg2 : Gl X x2)
    (hm1 : X.mg x1 = some (.ref f1)) (hm2 : X.mg x2 = some (.ref f2)) (hk1 : PySem.W.keepIn X.K (.ref f1) = true) (hk2 : PySem.W.keepIn X.K (.ref f2) = true) (hb1 : Binds X.K fd1 ps1 []) (hb2 : Binds X.K fd2 ps2 []) (hx : Passes CX X E)
    (hi : PE X idx ti) (hs : PlainIx idx) (ha : PA X (e :: es) t)
    (hd1 : (x1 == ("__debug__" : Str)) = false := by decide) (hd2 : (x2 == ("__debug__" : Str)) = false := by decide)
    (hl1 : starEach [Expr.Name x1 p1, .Name x2 p2] X.env = (false, eval (.Name x1 p1) X.env) :: starEach [Expr.Name x2 p2] X.env := by rfl)
    (hl2 : starEach [Expr.Name x2 p2] X.env = (false, eval (.Name x2 p2) X.env) :: starEach [] X.env := by rfl)
    (ht : eval (.Call (.Subscript (.List [.Name x1 p1, .Name x2 p2] lp) idx ip) (e :: es) [] pos) X.env = (do callWith pos (← eval (.Subscript (.List [.Name x1 p1, .Name x2 p2] lp) idx ip) X.env) [] (backTo pos (starEach (e :: es) X.env)) (backToKw pos (keywordEach [] X.env))) := by rfl)
    (he : starEach (e :: es) X.env = (false, eval e X.env) :: starEach es X.env := by rfl) (hpl : (backTo pos (starEach es X.env)).any (·.1) = false := by rfl) :
    PE X (.Call (.Subscript (.List [.Name x1 p1, .Name x2 p2] lp) idx ip) (e :: es) [] pos) (tPick X.K f1 f2 sp1 sp2 E ti t) := by
  refine ⟨fun pins s σ H Q I h => ?_⟩
  have fe := pe_ix (pos := ip) ix_seq (pe_lst (pos := lp) (pa_cons (pe_glob (pos := p1) (v := .ref f1) hg1 hm1 rfl hd1) (pa_cons (pe_glob (pos := p2) (v := .ref f2) hg2 hm2 rfl hd2) pa_nil hl2) hl1)) hi hs
  refine Call_ (thn (fe.run pins s σ H _ I h) fun u s1 ⟨y, H1, I1, ry, q⟩ => ?_) ht
  rcases q with ⟨ey, q⟩ | ⟨ey, q⟩
  · subst ey
    obtain rfl : u = Value.ref f1 := ry
    refine PySem.W.callWith_K (h₀ := X.base) I.ok.mod.kin hk1 (thn (ha.run pos pins s1 σ H1 _ I1 q) ?_) he hpl
    rintro us s2 ⟨vs, H2, I2, r, q2⟩
    exact ⟨I2.kIn, goG F1 gd hr1 hb1 hx I2 r q2⟩
  · subst ey
    obtain rfl : u = Value.ref f2 := ry
    refine PySem.W.callWith_K (h₀ := X.base) I.ok.mod.kin hk2 (thn (ha.run pos pins s1 σ H1 _ I1 q) ?_) he hpl
    rintro us s2 ⟨vs, H2, I2, r, q2⟩
    exact ⟨I2.kIn, goG F2 gd hr2 hb2 hx I2 r q2⟩
end
section
variable {X : Cx} {W : Wish} {k1 k2 : Nat} {x1 x2 : Str} {ps1 ps2 : List Str} {F1 F2 : Fn} {p1 p2 lp ip pos : Pos} {idx e : Expr} {es : List Expr} {fi : Ex} {xs : List Ex}
theorem call_end {ps : List Str} {F : Fn} {K : PySem.W.Frag} {mg : Str → Option Value} {g : Gh} {σ : L2.St} {H HF G GF : Hp} {ρ : Rho} {f1 : Feed} {Q : VK} (hno : ∀ as f c v f2, F as f ≠ .ex c v f2) (hn : xs.length = ps.length)
    (r1 : Rel K g σ G GF ρ f1) (s0 : Step g H HF G GF) (q : ROk K mg g G GF (W σ) (cCall F xs ρ f1) (Fin K g σ H HF Q)) : argT K mg W xs σ G fun vs I => spD K mg ps.length F vs I Q (fun _ _ _ => False) :=
  vals_read xs r1 q fun as f2 vs I IF hl r2 s2 drs q2 => ⟨hl.trans hn, g, IF, as, f2, ⟨r2.sub, r2.feed, drs⟩, by
    cases z : F as f2 with
    | no =>
      rw [z] at q2
      exact q2
    | ex c v f =>
      rw [z] at q2
      exact (show False from hno as f2 c v f z).elim
    | ok rv f3 =>
      rw [z] at q2
      exact fun v J JF s3 h3 rr => (show Fin K g σ H HF Q rv f3 from q2) v J JF ((s0.trans r1.feed s2).trans r2.feed s3) h3 (rr.any.back r2.feed (s0.trans r1.feed s2))⟩
theorem de_pick (h1 : Has X.prog X.w X.K X.mg X.base k1 x1 ps1 F1) (h2 : Has X.prog X.w X.K X.mg X.base k2 x2 ps2 F2) (gd : X.A.guards = some []) (hr1 : Room k1 X.A) (hr2 : Room k2 X.A) (hg1 : Gl X x1) (hg2 : Gl X x2) (hi : DE X W idx fi) (hs : PlainIx idx)
    (ha : DA X W (e :: es) xs) (hn1 : xs.length = ps1.length := by rfl) (hn2 : xs.length = ps2.length := by rfl)
    (hd1 : (x1 == ("__debug__" : Str)) = false := by decide) (hd2 : (x2 == ("__debug__" : Str)) = false := by decide)
    (hl1 : starEach [Expr.Name x1 p1, .Name x2 p2] X.env = (false, eval (.Name x1 p1) X.env) :: starEach [Expr.Name x2 p2] X.env := by rfl)
    (hl2 : starEach [Expr.Name x2 p2] X.env = (false, eval (.Name x2 p2) X.env) :: starEach [] X.env := by rfl)
    (ht : eval (.Call (.Subscript (.List [.Name x1 p1, .Name x2 p2] lp) idx ip) (e :: es) [] pos) X.env = (do callWith pos (← eval (.Subscript (.List [.Name x1 p1, .Name x2 p2] lp) idx ip) X.env) [] (backTo pos (starEach (e :: es) X.env)) (backToKw pos (keywordEach [] X.env))) := by rfl)
    (he : starEach (e :: es) X.env = (false, eval e X.env) :: starEach es X.env := by rfl) (hpl : (backTo pos (starEach es X.env)).any (·.1) = false := by rfl) :
    DE X W (.Call (.Subscript (.List [.Name x1 p1, .Name x2 p2] lp) idx ip) (e :: es) [] pos) (cPick F1 F2 fi xs) := by
  obtain ⟨f1, fd1, hm1, hk1, hb1, G1, no1⟩ := h1
  obtain ⟨f2, fd2, hm2, hk2, hb2, G2, no2⟩ := h2
  refine pe_mono (pe_pick (E := fun _ _ _ => False) G1 G2 gd hr1 hr2 hg1 hg2 hm1 hm2 hk1 hk2 hb1 hb2 pass0 hi hs ha hd1 hd2 hl1 hl2 ht he hpl) fun σ H Q ⟨g, HF, ρ, fe, rel, q⟩ => ?_
  refine ⟨by show 2 ≤ sizeLine; decide, fun p hp => ?_⟩
  obtain ⟨s0, h0⟩ := lay_new (o := .lst [.ref f1, .ref f2]) rel.sub rel.feed hp
  have rel2 := rel.step s0 h0
  have q2 := ROk.later q h0 s0
  refine tD_pk rel2 q2 fun d f3 x G GF r1 s1 t1 q1 => ?_
  have st := s0.trans h0 s1
  have hG : G p = some (.lst [.ref f1, .ref f2]) := r1.sub _ _ (s1.le _ _ upd_same)
  have hq : SqL X.K G p [.ref f1, .ref f2] := .inl (.inl hG)
  cases d <;> try exact (show False from q1).elim
  rename_i i
  by_cases c0 : i = 0
  · subst c0
    refine .inl ⟨p, _, 0, .ref f1, rfl, t1.int, hq, rfl, .inl ⟨rfl, ?_⟩⟩
    exact call_end no1 hn1 r1 st q1
  · by_cases c1 : i = 1
    · subst c1
      refine .inl ⟨p, _, 1, .ref f2, rfl, t1.int, hq, rfl, .inr ⟨rfl, ?_⟩⟩
      exact call_end no2 hn2 r1 st q1
    · simp only [if_neg c0, if_neg c1] at q1
      exact (show False from q1).elim
end
end Dn
end
section
set_option maxHeartbeats 4000000
namespace Dn
open PySem PySem.Spec L2
/-- [e for T in board[x] if t] -/
def cLcR (i : Nat) (xi : Ex) (T : Tgt) (t : Tx) (e : Ex) (vs : List Nat) : Ex := fun ρ f => match ρ[i]? with
  | some (.brd dss) => pk (xi ρ f) fun k f1 => match k with
    | .int k => match atI dss k with
      | some ds => (lcN T t e (wipeR ρ vs) ds [] f1).bind fun ys f2 => .ok (.own ys) f2
      | none => .no
    | _ => .no
  | _ => .no
section
variable {K : PySem.W.Frag} {mg : Str → Option Value} {W : Wish} {σ : St} {H : Hp} {i : Nat}
end
section
variable {X : Cx} {W : Wish} {i : Nat} {pos pos2 : Pos} {o ie : Expr} {xi : Ex} {elt tg : Expr} {ifs : List Expr} {scope : Scope} {own : List (Str × Nat)} {T : Tgt} {t : Tx} {e : Ex}
end
@[simp] theorem e_lcR {i : Nat} {xi : Ex} {T : Tgt} {t : Tx} {e : Ex} {vs : List Nat} {ρ : Rho} {f : Feed} : cLcR i xi T t e vs ρ f = match ρ[i]? with
  | some (.brd dss) => pk (xi ρ f) fun k f1 => match k with
    | .int k => match atI dss k with
      | some ds => (lcN T t e (wipeR ρ vs) ds [] f1).bind fun ys f2 => .ok (.own ys) f2
      | none => .no
    | _ => .no
  | _ => .no := nr rfl
end Dn
end
section
set_option maxHeartbeats 4000000
namespace Dn
open PySem PySem.Spec L2
def tI (k : Bool) : Int := if k = true then 1 else 0
section
variable {X : Cx}
end
theorem UnOk.or {K : PySem.W.Frag} {r r2 : V → Hp → VK → Prop} {o o2 : Op1} (h : UnOk K r o) (h2 : UnOk K r2 o2) : UnOk K (fun v H Q => r v H Q ∨ r2 v H Q) fun d => (o d).or (o2 d) := fun g H HF f x d rv a t z Q k => by
  replace z : (o d).or (o2 d) = some rv := z
  cases q : o d with
  | some w =>
    rw [q] at z
    cases z
    exact .inl (h g H HF f x d _ a t q Q k)
  | none =>
    rw [q] at z
    exact .inr (h2 g H HF f x d rv a t z Q k)
def addBI : Op2
  | .bool k, .int i => some (.dat (.int (tI k + i)))
  | _, _ => none
def subBI : Op2
  | .bool k, .int i => some (.dat (.int (tI k - i)))
  | _, _ => none
def subIB : Op2
  | .int i, .bool k => some (.dat (.int (i - tI k)))
  | _, _ => none
def mulIB : Op2
  | .int i, .bool k => some (.dat (.int (i * tI k)))
  | _, _ => none
def strB : Op1
  | .bool b => some (.dat (.str ((if b then Str.ofString "True" else Str.ofString "False"))))
  | _ => none
section
variable {K : PySem.W.Frag}
end
def oAddN : Op2 := fun d e => (oAdd d e).or (addBI d e)
def oSubN : Op2 := fun d e => (oSub d e).or ((subBI d e).or (subIB d e))
def oMulN : Op2 := fun d e => (oMul d e).or (mulIB d e)
def oStrN : Op1 := fun d => (oStrI d).or (strB d)
section
variable {X : Cx} {W : Wish} {a b : Expr} {fa fb : Ex} {pos p : Pos}
end
section
variable {i j : Int} {k : Bool}
@[simp] theorem oAddN_ii : oAddN (.int i) (.int j) = some (.dat (.int (i + j))) := nr rfl
@[simp] theorem oAddN_bi : oAddN (.bool k) (.int j) = some (.dat (.int (tI k + j))) := nr rfl
@[simp] theorem oSubN_ii : oSubN (.int i) (.int j) = some (.dat (.int (i - j))) := nr rfl
@[simp] theorem oSubN_bi : oSubN (.bool k) (.int j) = some (.dat (.int (tI k - j))) := nr rfl
@[simp] theorem oSubN_ib : oSubN (.int i) (.bool k) = some (.dat (.int (i - tI k))) := nr rfl
@[simp] theorem oMulN_ib : oMulN (.int i) (.bool k) = some (.dat (.int (i * tI k))) := nr rfl
@[simp] theorem oStrN_b : oStrN (.bool k) = some (.dat (.str ((if k then Str.ofString "True" else Str.ofString "False")))) := nr rfl
end
theorem op_neE {X : Cx} (hu : X.A.units < cLine) : OpR X (compareOp .NotEq) (fun x y H Q => ∃ p q vs, x = .ref p ∧ y = .ref q ∧ H p = some (.lst vs) ∧ H q = some (.lst []) ∧ Q (.bl (!vs.isEmpty)) H) := by
  intro pins s σ H x y v u Q I rx ry h
  obtain ⟨p, q, vs, rfl, rfl, hp, hq, k⟩ := h
  obtain rfl : v = Value.ref p := rx
  obtain rfl : u = Value.ref q := ry
  obtain ⟨_, its, n, rv, ho⟩ := (show ObjOk X.prog X.w H s.heap p (.lst vs) from I.hok p _ hp)
  obtain ⟨_, its2, n2, rv2, ho2⟩ := (show ObjOk X.prog X.w H s.heap q (.lst []) from I.hok q _ hq)
  have l1 : s.heap.IsList p its.toArray := ⟨_, ho, rfl, n, rfl⟩
  have l2 : s.heap.IsList q its2.toArray := ⟨_, ho2, rfl, n2, rfl⟩
  have hl : its.length = vs.length := rv.length.symm
  have hl2 : its2.length = 0 := rv2.length.symm
  cases vs with
  | nil =>
    have := SeqAt.RcNeAt.lists (A := X.A) (e := fun _ => true) l1 l2 (by simp [hl, hl2]) hu fun j h1 h2 => by
      simp [hl2] at h2
    have e : (!(List.range its.toArray.size).all fun _ => true) = false := by simp
    rw [e] at this
    exact this X.prog X.w X.xe _ ⟨.bl false, H, I, rfl, k⟩
  | cons a r =>
    exact SeqAt.RcNeAt.lists_lengths (A := X.A) l1 l2 (by simp [hl, hl2]) hu X.prog X.w X.xe _ ⟨.bl true, H, I, rfl, k⟩
def neE : Op2
  | .list xs, .list [] => some (.dat (.bool (!xs.isEmpty)))
  | _, _ => none
theorem neE_ok {K : PySem.W.Frag} : BinOk K (fun x y H Q => ∃ p q vs, x = .ref p ∧ y = .ref q ∧ H p = some (.lst vs) ∧ H q = some (.lst []) ∧ Q (.bl (!vs.isEmpty)) H) neE := fun g H HF f x y d e rv a t u z Q k => by
  cases d <;> try cases z
  rename_i xs
  cases e <;> try cases z
  rename_i ys
  cases ys <;> try cases z
  obtain ⟨p, vs, rfl, hp, rp⟩ := t.lst a.sub
  obtain ⟨q, ws, rfl, hq, rq⟩ := u.lst a.sub
  cases rq
  refine ⟨p, q, vs, rfl, rfl, hp, hq, ?_⟩
  have e : vs.isEmpty = xs.isEmpty := by
    have := rp.length
    cases vs <;> cases xs <;> simp at this <;> rfl
  rw [e]
  exact k.now a (.bl _)
def oNeE : Op2 := fun d e => (neE d e).or (oNe d e)
section
variable {X : Cx} {W : Wish} {a b : Expr} {fa fb : Ex} {pos p : Pos}
theorem dt_neE (hu : X.A.units + 64 < cLine) (ha : DE X W a fa) (hb : DE X W b fb) : DT X W (.Compare a [.NotEq] [b] pos) (cT (cBin oNeE fa fb)) := dt_cmp ((op_neE (Nat.lt_of_le_of_lt (Nat.le_add_right _ 64) hu)).or (op_neA hu)) (neE_ok.or oNe_ok) ha hb (nomark _)
end
@[simp] theorem oNeE_list {xs : List PyData} : oNeE (.list xs) (.list []) = some (.dat (.bool (!xs.isEmpty))) := nr rfl
end Dn
end
namespace Fp
open PySem PySem.Spec L2 Dn
abbrev d_NOUGHT : PyData := .tuple [(.int 0), (.int 1)]
abbrev d_ONE : PyData := .tuple [(.int 1), (.int 1)]
abbrev d_NONE_THERE : PyData := .str "-"
abbrev d_BEHIND : PyData := .str ";"
abbrev d_MOST_WAYS_v2 : PyData := .int 3
abbrev d_FIGURES : PyData := .str "0123456789"
/-- _law_low(_law_top, _law_bottom); slots: 0 _law_top, 1 _law_bottom, 2 _law_one, 3 _law_other -/
noncomputable def S_q_low : Sm := sSeq (sPar 2 3 (cUn oAbs (cVar 0)) (cVar 1)) (sSeq (sWhile (cT (cBin oGt (cVar 3) (cC (.int 0)))) (sPar 2 3 (cVar 3) (cBin oMod (cVar 2) (cVar 3)))) (sRet (cTup [cBin oDiv (cVar 0) (cVar 2), cBin oDiv (cVar 1) (cVar 2)])))
noncomputable def F_q_low : Dn.Fn := dBody 4 S_q_low
theorem u_q_low {a0 a1 : RV} {f : Feed} : F_q_low [a0, a1] f = dEnd (S_q_low [fnSlot a0, fnSlot a1, .emp, .emp] f) := rfl
/-- common(one, other); slots: 0 one, 1 other -/
noncomputable def S_common : Sm := sSeq (sWhile (cT (cBin oNe (cVar 1) (cC (.int 0)))) (sPar 0 1 (cVar 1) (cBin oMod (cVar 0) (cVar 1)))) (sRet (cVar 0))
noncomputable def F_common : Dn.Fn := dBody 2 S_common
theorem u_common {a0 a1 : RV} {f : Feed} : F_common [a0, a1] f = dEnd (S_common [fnSlot a0, fnSlot a1] f) := rfl
/-- ratio(top, bottom); slots: 0 top, 1 bottom, 2 sign, 3 part -/
noncomputable def S_ratio : Sm := sSeq (sIf (cT (cBin oEq (cVar 1) (cC (.int 0)))) (sNo) (sNext)) (sSeq (sSet 2 (cIf (cT (cBin oLt (cVar 1) (cC (.int 0)))) (cUn oNeg (cC (.int 1))) (cC (.int 1)))) (sSeq (sSet 3 (cCall F_common [cUn oAbs (cVar 0), cUn oAbs (cVar 1)])) (sRet (cTup [cBin oDiv (cBin oMul (cVar 2) (cVar 0)) (cVar 3), cBin oDiv (cBin oMul (cVar 2) (cVar 1)) (cVar 3)]))))
noncomputable def F_ratio : Dn.Fn := dBody 4 S_ratio
theorem u_ratio {a0 a1 : RV} {f : Feed} : F_ratio [a0, a1] f = dEnd (S_ratio [fnSlot a0, fnSlot a1, .emp, .emp] f) := rfl
/-- plus(one, other); slots: 0 one, 1 other -/
noncomputable def S_plus : Sm := sRet (cCall F_ratio [cBin oAdd (cBin oMul (cBin oIx (cVar 0) (cC (.int 0))) (cBin oIx (cVar 1) (cC (.int 1)))) (cBin oMul (cBin oIx (cVar 1) (cC (.int 0))) (cBin oIx (cVar 0) (cC (.int 1)))), cBin oMul (cBin oIx (cVar 0) (cC (.int 1))) (cBin oIx (cVar 1) (cC (.int 1)))])
noncomputable def F_plus : Dn.Fn := dBody 2 S_plus
theorem u_plus {a0 a1 : RV} {f : Feed} : F_plus [a0, a1] f = dEnd (S_plus [fnSlot a0, fnSlot a1] f) := rfl
/-- minus(one, other); slots: 0 one, 1 other -/
noncomputable def S_minus : Sm := sRet (cCall F_ratio [cBin oSub (cBin oMul (cBin oIx (cVar 0) (cC (.int 0))) (cBin oIx (cVar 1) (cC (.int 1)))) (cBin oMul (cBin oIx (cVar 1) (cC (.int 0))) (cBin oIx (cVar 0) (cC (.int 1)))), cBin oMul (cBin oIx (cVar 0) (cC (.int 1))) (cBin oIx (cVar 1) (cC (.int 1)))])
noncomputable def F_minus : Dn.Fn := dBody 2 S_minus
theorem u_minus {a0 a1 : RV} {f : Feed} : F_minus [a0, a1] f = dEnd (S_minus [fnSlot a0, fnSlot a1] f) := rfl
/-- times(one, other); slots: 0 one, 1 other -/
noncomputable def S_times : Sm := sRet (cCall F_ratio [cBin oMul (cBin oIx (cVar 0) (cC (.int 0))) (cBin oIx (cVar 1) (cC (.int 0))), cBin oMul (cBin oIx (cVar 0) (cC (.int 1))) (cBin oIx (cVar 1) (cC (.int 1)))])
noncomputable def F_times : Dn.Fn := dBody 2 S_times
theorem u_times {a0 a1 : RV} {f : Feed} : F_times [a0, a1] f = dEnd (S_times [fnSlot a0, fnSlot a1] f) := rfl
/-- is_below(one, other); slots: 0 one, 1 other -/
noncomputable def S_is_below : Sm := sRet (cBin oLt (cBin oMul (cBin oIx (cVar 0) (cC (.int 0))) (cBin oIx (cVar 1) (cC (.int 1)))) (cBin oMul (cBin oIx (cVar 1) (cC (.int 0))) (cBin oIx (cVar 0) (cC (.int 1)))))
noncomputable def F_is_below : Dn.Fn := dBody 2 S_is_below
theorem u_is_below {a0 a1 : RV} {f : Feed} : F_is_below [a0, a1] f = dEnd (S_is_below [fnSlot a0, fnSlot a1] f) := rfl
/-- summed(some); slots: 0 some, 1 found, 2 one -/
noncomputable def S_summed : Sm := sSeq (sSet 1 (cC d_NOUGHT)) (sSeq (sFor (iSeq (cVar 0)) (.one 2) (sSet 1 (cCall F_plus [cVar 1, cVar 2]))) (sRet (cVar 1)))
noncomputable def F_summed : Dn.Fn := dBody 3 S_summed
theorem u_summed {a0 : RV} {f : Feed} : F_summed [a0] f = dEnd (S_summed [fnSlot a0, .emp, .emp] f) := rfl
/-- over(one, other); slots: 0 one, 1 other -/
noncomputable def S_over : Sm := sRet (cCall F_ratio [cBin oMul (cBin oIx (cVar 0) (cC (.int 0))) (cBin oIx (cVar 1) (cC (.int 1))), cBin oMul (cBin oIx (cVar 0) (cC (.int 1))) (cBin oIx (cVar 1) (cC (.int 0)))])
noncomputable def F_over : Dn.Fn := dBody 2 S_over
theorem u_over {a0 a1 : RV} {f : Feed} : F_over [a0, a1] f = dEnd (S_over [fnSlot a0, fnSlot a1] f) := rfl
/-- chances_added(life); slots: 0 life, 1 row, 2 step, 3 found -/
noncomputable def S_chances_added : Sm := sSeq (sAsg (.many [1, 2]) (cVar 0)) (sSeq (sSet 3 (cCall F_summed [cVar 1])) (sSeq (sIf (cT (cBin oEq (cVar 2) (cC d_NOUGHT))) (sRet (cVar 3)) (sNext)) (sRet (cCall F_plus [cVar 3, cCall F_over [cCall F_times [cBin oIx (cVar 1) (cUn oNeg (cC (.int 1))), cVar 2], cCall F_minus [cC d_ONE, cVar 2]]]))))
noncomputable def F_chances_added : Dn.Fn := dBody 4 S_chances_added
theorem u_chances_added {a0 : RV} {f : Feed} : F_chances_added [a0] f = dEnd (S_chances_added [fnSlot a0, .emp, .emp, .emp] f) := rfl
/-- _law_sum(_law_some); slots: 0 _law_some, 1 _law_found, 2 _law_one -/
noncomputable def S_q_sum : Sm := sSeq (sSet 1 (cTup [cC (.int 0), cC (.int 1)])) (sSeq (sFor (iSeq (cVar 0)) (.one 2) (sSet 1 (cCall F_q_low [cBin oAdd (cBin oMul (cBin oIx (cVar 1) (cC (.int 0))) (cBin oIx (cVar 2) (cC (.int 1)))) (cBin oMul (cBin oIx (cVar 2) (cC (.int 0))) (cBin oIx (cVar 1) (cC (.int 1)))), cBin oMul (cBin oIx (cVar 1) (cC (.int 1))) (cBin oIx (cVar 2) (cC (.int 1)))]))) (sRet (cVar 1)))
noncomputable def F_q_sum : Dn.Fn := dBody 3 S_q_sum
theorem u_q_sum {a0 : RV} {f : Feed} : F_q_sum [a0] f = dEnd (S_q_sum [fnSlot a0, .emp, .emp] f) := rfl
/-- _law_is_whole(_law_thing); slots: 0 _law_thing -/
noncomputable def S_q_is_whole : Sm := sRet (cAnd (cUn (oIsi "int") (cVar 0)) (cUn cNot (cUn (oIsi "bool") (cVar 0))))
noncomputable def F_q_is_whole : Dn.Fn := dBody 1 S_q_is_whole
/-- _law_is_ratio(_law_thing); slots: 0 _law_thing -/
noncomputable def S_q_is_ratio : Sm := sSeq (sIf (tOrX (tNotX (cT (cUn (oIsi "tuple") (cVar 0)))) (cT (cBin oNe (cUn oLen (cVar 0)) (cC (.int 2))))) (sRet (cC (.bool false))) (sNext)) (sSeq (sIf (tOrX (tNotX (cT (cCall F_q_is_whole [cBin oIx (cVar 0) (cC (.int 0))]))) (tNotX (cT (cCall F_q_is_whole [cBin oIx (cVar 0) (cC (.int 1))])))) (sRet (cC (.bool false))) (sNext)) (sRet (cAnd (cBin oGt (cBin oIx (cVar 0) (cC (.int 1))) (cC (.int 0))) (cBin oEq (cCall F_q_low [cBin oIx (cVar 0) (cC (.int 0)), cBin oIx (cVar 0) (cC (.int 1))]) (cVar 0)))))
noncomputable def F_q_is_ratio : Dn.Fn := dBody 1 S_q_is_ratio
/-- _law_is_way(_law_thing); slots: 0 _law_thing, 1 _law_one -/
noncomputable def S_q_is_way : Sm := sRet (cAnd (cUn (oIsi "tuple") (cVar 0)) (cBin (oInF true) (cC (.bool false)) (cLc (iSeq (cVar 0)) (.one 1) (cYes) (cAnd (cCall F_q_is_whole [cVar 1]) (cBin oGt (cVar 1) (cC (.int 0)))) [1])))
noncomputable def F_q_is_way : Dn.Fn := dBody 2 S_q_is_way
/-- is_whole(thing); slots: 0 thing -/
noncomputable def S_is_whole : Sm := sRet (cAnd (cUn (oIsi "int") (cVar 0)) (cUn cNot (cUn (oIsi "bool") (cVar 0))))
noncomputable def F_is_whole : Dn.Fn := dBody 1 S_is_whole
theorem u_is_whole {a0 : RV} {f : Feed} : F_is_whole [a0] f = dEnd (S_is_whole [fnSlot a0] f) := rfl
/-- is_ratio(thing); slots: 0 thing -/
noncomputable def S_is_ratio : Sm := sSeq (sIf (tOrX (tNotX (cT (cUn (oIsi "tuple") (cVar 0)))) (tOrX (cT (cBin oNe (cUn oLen (cVar 0)) (cC (.int 2)))) (tOrX (tNotX (cT (cCall F_is_whole [cBin oIx (cVar 0) (cC (.int 0))]))) (tNotX (cT (cCall F_is_whole [cBin oIx (cVar 0) (cC (.int 1))])))))) (sRet (cC (.bool false))) (sNext)) (sRet (cAnd (cBin oGe (cBin oIx (cVar 0) (cC (.int 1))) (cC (.int 1))) (cBin oEq (cCall F_common [cUn oAbs (cBin oIx (cVar 0) (cC (.int 0))), cBin oIx (cVar 0) (cC (.int 1))]) (cC (.int 1)))))
noncomputable def F_is_ratio : Dn.Fn := dBody 1 S_is_ratio
theorem u_is_ratio {a0 : RV} {f : Feed} : F_is_ratio [a0] f = dEnd (S_is_ratio [fnSlot a0] f) := rfl
/-- _law_draw(_law_feed_here, _law_size); slots: 0 _law_feed_here, 1 _law_size, 2 _law_turn, 3 _law_digit, 4 _law_at, 5 _law_cell, 6 _law_mixed -/
noncomputable def S_q_draw_v3 : Sm := sSeq (sSet 2 (cBin oAdd (cFeed "turn" (cVar 0)) (cC (.int 1)))) (sSeq (sFeed "turn" (cVar 0) (cVar 2)) (sSeq (sIf (cT (cBin oGt (cFeed "left" (cVar 0)) (cC (.int 0)))) (sSeq (sSet 3 (cBin oMod (cFeed "left" (cVar 0)) (cVar 1))) (sSeq (sFeed "left" (cVar 0) (cBin oDiv (cFeed "left" (cVar 0)) (cVar 1))) (sRet (cVar 3)))) (sNext)) (sSeq (sSet 4 (cFeed "at" (cVar 0))) (sSeq (sFeed "at" (cVar 0) (cBin oAdd (cVar 4) (cC (.int 1)))) (sSeq (sSet 5 (cIf (cT (cBin oNe (cFeed "cells" (cVar 0)) (cLst []))) (cBin oIx (cFeed "cells" (cVar 0)) (cBin oMod (cVar 4) (cUn oLen (cFeed "cells" (cVar 0))))) (cC (.int 5)))) (sSeq (sIf (tAndX (cT (cBin oGe (cVar 5) (cBin oPow (cC (.int 10)) (cC (.int 18))))) (cT (cBin oLt (cVar 4) (cUn oLen (cFeed "cells" (cVar 0)))))) (sSeq (sFeed "left" (cVar 0) (cBin oDiv (cVar 5) (cVar 1))) (sRet (cBin oMod (cVar 5) (cVar 1)))) (sNext)) (sSeq (sSet 6 (cBin oMod (cBin oPow (cBin oAdd (cBin oAdd (cBin oMod (cVar 5) (cC (.int 999983))) (cBin oMul (cC (.int 40009)) (cVar 2))) (cC (.int 11))) (cC (.int 5))) (cC (.int 2147483647)))) (sSeq (sSet 6 (cBin oMod (cBin oPow (cBin oAdd (cVar 6) (cBin oMul (cC (.int 99991)) (cVar 2))) (cC (.int 5))) (cC (.int 2147483587)))) (sRet (cBin oMod (cBin oDiv (cVar 6) (cC (.int 16))) (cVar 1)))))))))))
noncomputable def F_q_draw_v3 : Dn.Fn := dBody 7 S_q_draw_v3
theorem u_q_draw_v3 {a0 a1 : RV} {f : Feed} : F_q_draw_v3 [a0, a1] f = dEnd (S_q_draw_v3 [fnSlot a0, fnSlot a1, .emp, .emp, .emp, .emp, .emp] f) := rfl
/-- _law_lowest(_law_top, _law_bottom); slots: 0 _law_top, 1 _law_bottom, 2 _law_one, 3 _law_other -/
noncomputable def S_q_lowest : Sm := sSeq (sPar 2 3 (cUn oAbs (cVar 0)) (cVar 1)) (sSeq (sWhile (cT (cBin oGt (cVar 3) (cC (.int 0)))) (sPar 2 3 (cVar 3) (cBin oMod (cVar 2) (cVar 3)))) (sRet (cTup [cBin oDiv (cVar 0) (cVar 2), cBin oDiv (cVar 1) (cVar 2)])))
noncomputable def F_q_lowest : Dn.Fn := dBody 4 S_q_lowest
theorem u_q_lowest {a0 a1 : RV} {f : Feed} : F_q_lowest [a0, a1] f = dEnd (S_q_lowest [fnSlot a0, fnSlot a1, .emp, .emp] f) := rfl
/-- _law_add(_law_one, _law_other); slots: 0 _law_one, 1 _law_other -/
noncomputable def S_q_add : Sm := sRet (cCall F_q_lowest [cBin oAdd (cBin oMul (cBin oIx (cVar 0) (cC (.int 0))) (cBin oIx (cVar 1) (cC (.int 1)))) (cBin oMul (cBin oIx (cVar 1) (cC (.int 0))) (cBin oIx (cVar 0) (cC (.int 1)))), cBin oMul (cBin oIx (cVar 0) (cC (.int 1))) (cBin oIx (cVar 1) (cC (.int 1)))])
noncomputable def F_q_add : Dn.Fn := dBody 2 S_q_add
theorem u_q_add {a0 a1 : RV} {f : Feed} : F_q_add [a0, a1] f = dEnd (S_q_add [fnSlot a0, fnSlot a1] f) := rfl
/-- _law_bounded(_law_feed_here, _law_longest, _law_is_full); slots: 0 _law_feed_here, 1 _law_longest, 2 _law_is_full, 3 _law_weights, 4 _law_lack, 5 _law_total, 6 _law_k, 7 _law_one -/
noncomputable def S_q_bounded_v2 : Sm := sSeq (sSet 3 (cLc (iRange1 (cCall F_q_draw_v3 [cVar 0, cBin oAdd (cVar 1) (cC (.int 1))])) (.one 6) (cYes) (cBin oMul (cCall F_q_draw_v3 [cVar 0, cC (.int 7)]) (cUn oInt (cBin oGt (cCall F_q_draw_v3 [cVar 0, cC (.int 3)]) (cC (.int 0))))) [6])) (sSeq (sFrz 3) (sSeq (sSet 4 (cBin oIx (cLst [cC (.int 0), cC (.int 0), cC (.int 1), cC (.int 4)]) (cCall F_q_draw_v3 [cVar 0, cC (.int 4)]))) (sSeq (sIf (cT (cVar 2)) (sSeq (sSet 4 (cC (.int 0))) (sSet 3 (cIf (cT (cBin oEq (cUn oSum (cVar 3)) (cC (.int 0)))) (cBin oAdd (cSl (cVar 3) none (some (cBin oSub (cVar 1) (cC (.int 1))))) (cLst [cC (.int 1)])) (cVar 3)))) (sNext)) (sSeq (sFrz 3) (sSeq (sSet 5 (cBin oMax (cC (.int 1)) (cBin oAdd (cUn oSum (cVar 3)) (cVar 4)))) (sRet (cTup [cUn oTuple (cLc (iSeq (cVar 3)) (.one 7) (cYes) (cCall F_q_lowest [cVar 7, cVar 5]) [7]), cTup [cC (.int 0), cC (.int 1)]])))))))
noncomputable def F_q_bounded_v2 : Dn.Fn := dBody 8 S_q_bounded_v2
theorem u_q_bounded_v2 {a0 a1 a2 : RV} {f : Feed} : F_q_bounded_v2 [a0, a1, a2] f = dEnd (S_q_bounded_v2 [fnSlot a0, fnSlot a1, fnSlot a2, .emp, .emp, .emp, .emp, .emp] f) := rfl
/-- _law_by(_law_one, _law_other); slots: 0 _law_one, 1 _law_other -/
noncomputable def S_q_by : Sm := sRet (cCall F_q_lowest [cBin oMul (cBin oIx (cVar 0) (cC (.int 0))) (cBin oIx (cVar 1) (cC (.int 0))), cBin oMul (cBin oIx (cVar 0) (cC (.int 1))) (cBin oIx (cVar 1) (cC (.int 1)))])
noncomputable def F_q_by : Dn.Fn := dBody 2 S_q_by
theorem u_q_by {a0 a1 : RV} {f : Feed} : F_q_by [a0, a1] f = dEnd (S_q_by [fnSlot a0, fnSlot a1] f) := rfl
/-- _law_stepped(_law_feed_here); slots: 0 _law_feed_here, 1 _law_bottom, 2 _law_top, 3 _law_step, 4 _law_weights, 5 _law_rest, 6 _law_total, 7 _law_k, 8 _law_one -/
noncomputable def S_q_stepped : Sm := sSeq (sSet 1 (cBin oAdd (cC (.int 2)) (cCall F_q_draw_v3 [cVar 0, cC (.int 4)]))) (sSeq (sSet 2 (cBin oAdd (cC (.int 1)) (cCall F_q_draw_v3 [cVar 0, cBin oSub (cVar 1) (cC (.int 1))]))) (sSeq (sSet 3 (cCall F_q_lowest [cVar 2, cVar 1])) (sSeq (sSet 4 (cBin oAdd (cLc (iRange1 (cCall F_q_draw_v3 [cVar 0, cC (.int 3)])) (.one 7) (cYes) (cCall F_q_draw_v3 [cVar 0, cC (.int 4)]) [7]) (cLst [cBin oAdd (cC (.int 1)) (cCall F_q_draw_v3 [cVar 0, cC (.int 3)])]))) (sSeq (sFrz 4) (sSeq (sSet 5 (cBin oSub (cBin oIx (cVar 3) (cC (.int 1))) (cBin oIx (cVar 3) (cC (.int 0))))) (sSeq (sSet 6 (cBin oAdd (cBin oMul (cUn oSum (cVar 4)) (cVar 5)) (cBin oMul (cBin oIx (cVar 4) (cUn oNeg (cC (.int 1)))) (cBin oIx (cVar 3) (cC (.int 0)))))) (sRet (cTup [cUn oTuple (cLc (iSeq (cVar 4)) (.one 8) (cYes) (cCall F_q_lowest [cBin oMul (cVar 8) (cVar 5), cVar 6]) [8]), cVar 3]))))))))
noncomputable def F_q_stepped : Dn.Fn := dBody 9 S_q_stepped
theorem u_q_stepped {a0 : RV} {f : Feed} : F_q_stepped [a0] f = dEnd (S_q_stepped [fnSlot a0, .emp, .emp, .emp, .emp, .emp, .emp, .emp, .emp] f) := rfl
/-- _law_life(_law_feed_here); slots: 0 _law_feed_here, 1 _law_way, 2 _law_row, 3 _law_step, 4 _law_less, 5 _law_one -/
noncomputable def S_q_life_v2 : Sm := sSeq (sSet 1 (cCall F_q_draw_v3 [cVar 0, cC (.int 4)])) (sSeq (sIf (cT (cBin oLt (cVar 1) (cC (.int 2)))) (sRet (cCall F_q_bounded_v2 [cVar 0, cC (.int 6), cBin oEq (cVar 1) (cC (.int 0))])) (sNext)) (sSeq (sAsg (.many [2, 3]) (cCall F_q_stepped [cVar 0])) (sSeq (sIf (cT (cBin oEq (cVar 1) (cC (.int 2)))) (sRet (cTup [cVar 2, cVar 3])) (sNext)) (sSeq (sSet 4 (cBin oIx (cLst [cTup [cC (.int 1), cC (.int 2)], cTup [cC (.int 2), cC (.int 3)], cTup [cC (.int 1), cC (.int 1)], cTup [cC (.int 0), cC (.int 1)]]) (cCall F_q_draw_v3 [cVar 0, cC (.int 4)]))) (sRet (cTup [cUn oTuple (cLc (iSeq (cVar 2)) (.one 5) (cYes) (cCall F_q_by [cVar 5, cVar 4]) [5]), cVar 3]))))))
noncomputable def F_q_life_v2 : Dn.Fn := dBody 6 S_q_life_v2
theorem u_q_life_v2 {a0 : RV} {f : Feed} : F_q_life_v2 [a0] f = dEnd (S_q_life_v2 [fnSlot a0, .emp, .emp, .emp, .emp, .emp] f) := rfl
/-- is_chance(thing); slots: 0 thing -/
noncomputable def S_is_chance : Sm := sRet (cAnd (cCall F_is_ratio [cVar 0]) (cChain oLe oLe (cC (.int 0)) (cBin oIx (cVar 0) (cC (.int 0))) (cBin oIx (cVar 0) (cC (.int 1)))))
noncomputable def F_is_chance : Dn.Fn := dBody 1 S_is_chance
theorem u_is_chance {a0 : RV} {f : Feed} : F_is_chance [a0] f = dEnd (S_is_chance [fnSlot a0] f) := rfl
/-- is_life(thing); slots: 0 thing, 1 one -/
noncomputable def S_is_life : Sm := sSeq (sIf (tOrX (tNotX (cT (cUn (oIsi "tuple") (cVar 0)))) (tOrX (cT (cBin oNe (cUn oLen (cVar 0)) (cC (.int 2)))) (tNotX (cT (cUn (oIsi "tuple") (cBin oIx (cVar 0) (cC (.int 0)))))))) (sRet (cC (.bool false))) (sNext)) (sSeq (sIf (tOrX (tNotX (cT (cCall F_is_chance [cBin oIx (cVar 0) (cC (.int 1))]))) (tOrX (cT (cBin oEq (cBin oIx (cVar 0) (cC (.int 1))) (cC d_ONE))) (tNotX (cT (cUn oAll (cLc (iSeq (cBin oIx (cVar 0) (cC (.int 0)))) (.one 1) (cYes) (cCall F_is_chance [cVar 1]) [1])))))) (sRet (cC (.bool false))) (sNext)) (sSeq (sIf (cT (cBin oEq (cUn oLen (cBin oIx (cVar 0) (cC (.int 0)))) (cC (.int 0)))) (sRet (cBin oEq (cBin oIx (cVar 0) (cC (.int 1))) (cC d_NOUGHT))) (sNext)) (sRet (cUn cNot (cCall F_is_below [cC d_ONE, cCall F_chances_added [cVar 0]])))))
noncomputable def F_is_life : Dn.Fn := dBody 2 S_is_life
theorem u_is_life {a0 : RV} {f : Feed} : F_is_life [a0] f = dEnd (S_is_life [fnSlot a0, .emp] f) := rfl
/-- ratio_text(number); slots: 0 number -/
noncomputable def S_ratio_text : Sm := sRet (cIf (cT (cBin oEq (cBin oIx (cVar 0) (cC (.int 1))) (cC (.int 1)))) (cUn oStrI (cBin oIx (cVar 0) (cC (.int 0)))) (cBin oAdd (cBin oAdd (cUn oStrI (cBin oIx (cVar 0) (cC (.int 0)))) (cC (.str "/"))) (cUn oStrI (cBin oIx (cVar 0) (cC (.int 1))))))
noncomputable def F_ratio_text : Dn.Fn := dBody 1 S_ratio_text
theorem u_ratio_text {a0 : RV} {f : Feed} : F_ratio_text [a0] f = dEnd (S_ratio_text [fnSlot a0] f) := rfl
/-- _law_ratio_text(_law_number); slots: 0 _law_number -/
noncomputable def S_q_ratio_text : Sm := sRet (cIf (cT (cBin oEq (cBin oIx (cVar 0) (cC (.int 1))) (cC (.int 1)))) (cUn oStrI (cBin oIx (cVar 0) (cC (.int 0)))) (cBin oAdd (cBin oAdd (cUn oStrI (cBin oIx (cVar 0) (cC (.int 0)))) (cC (.str "/"))) (cUn oStrI (cBin oIx (cVar 0) (cC (.int 1))))))
noncomputable def F_q_ratio_text : Dn.Fn := dBody 1 S_q_ratio_text
/-- number_in(word); slots: 0 word, 1 sign -/
noncomputable def S_number_in : Sm := sSeq (sIf (tOrX (tNotX (cT (cChain oLe oLe (cC (.int 1)) (cUn oLenA (cVar 0)) (cC d_MOST_WAYS_v2)))) (tNotX (cT (cUn oAll (cLc (iStrX (cVar 0)) (.one 1) (cYes) (cBin (oInSg false) (cVar 1) (cC d_FIGURES)) [1]))))) (sRet (cC .none)) (sNext)) (sSeq (sIf (tAndX (cT (cBin oEq (cBin oIx (cVar 0) (cC (.int 0))) (cC (.str "0")))) (cT (cBin oNe (cVar 0) (cC (.str "0"))))) (sRet (cC .none)) (sNext)) (sRet (cUn oIntS (cVar 0))))
noncomputable def F_number_in : Dn.Fn := dBody 2 S_number_in
theorem u_number_in {a0 : RV} {f : Feed} : F_number_in [a0] f = dEnd (S_number_in [fnSlot a0, .emp] f) := rfl
/-- chance_in(word); slots: 0 word, 1 numbers, 2 top, 3 bottom, 4 part -/
noncomputable def S_chance_in : Sm := sSeq (sSet 1 (cLc (iSeq (cMetS oSplit (cVar 0) (cC (.str "/")))) (.one 4) (cYes) (cCall F_number_in [cVar 4]) [4])) (sSeq (sFrz 1) (sSeq (sIf (tOrX (cT (cBin (oInF false) (cC .none) (cVar 1))) (cT (cBin oGt (cUn oLen (cVar 1)) (cC (.int 2))))) (sRet (cC .none)) (sNext)) (sSeq (sIf (cT (cBin oEq (cUn oLen (cVar 1)) (cC (.int 1)))) (sRet (cIf (cT (cBin oLt (cBin oIx (cVar 1) (cC (.int 0))) (cC (.int 2)))) (cTup [cBin oIx (cVar 1) (cC (.int 0)), cC (.int 1)]) (cC .none))) (sNext)) (sSeq (sUnl [2, 3] (cVar 1)) (sRet (cIf (tAndX (cT (cChain oLt oLt (cC (.int 0)) (cVar 2) (cVar 3))) (cT (cCall F_is_ratio [cTup [cVar 2, cVar 3]]))) (cTup [cVar 2, cVar 3]) (cC .none)))))))
noncomputable def F_chance_in : Dn.Fn := dBody 5 S_chance_in
theorem u_chance_in {a0 : RV} {f : Feed} : F_chance_in [a0] f = dEnd (S_chance_in [fnSlot a0, .emp, .emp, .emp, .emp] f) := rfl
/-- _law_life_text(_law_life_here); slots: 0 _law_life_here, 1 _law_words, 2 _law_one -/
noncomputable def S_q_life_text : Sm := sSeq (sSet 1 (cLc (iSeq (cBin oIx (cVar 0) (cC (.int 0)))) (.one 2) (cYes) (cCall F_q_ratio_text [cVar 2]) [2])) (sSeq (sFrz 1) (sSeq (sIf (cT (cBin oEq (cVar 1) (cLst []))) (sSet 1 (cLst [cC (.str "-")])) (sNext)) (sSeq (sFrz 1) (sSeq (sIf (cT (cBin oNe (cBin oIx (cVar 0) (cC (.int 1))) (cTup [cC (.int 0), cC (.int 1)]))) (sSet 1 (cBin oAdd (cVar 1) (cLst [cC (.str ";"), cCall F_q_ratio_text [cBin oIx (cVar 0) (cC (.int 1))]]))) (sNext)) (sSeq (sFrz 1) (sRet (cMetS oJoin (cC (.str " ")) (cVar 1))))))))
noncomputable def F_q_life_text : Dn.Fn := dBody 3 S_q_life_text
theorem u_q_life_text {a0 : RV} {f : Feed} : F_q_life_text [a0] f = dEnd (S_q_life_text [fnSlot a0, .emp, .emp] f) := rfl
/-- _law_is_over(_law_number); slots: 0 _law_number -/
noncomputable def S_q_is_over : Sm := sRet (cBin oGt (cBin oIx (cVar 0) (cC (.int 0))) (cBin oIx (cVar 0) (cC (.int 1))))
noncomputable def F_q_is_over : Dn.Fn := dBody 1 S_q_is_over
theorem u_q_is_over {a0 : RV} {f : Feed} : F_q_is_over [a0] f = dEnd (S_q_is_over [fnSlot a0] f) := rfl
/-- _law_figures(_law_word); slots: 0 _law_word, 1 _law_sign -/
noncomputable def S_q_figures : Sm := sSeq (sIf (tOrX (tNotX (cT (cChain oLe oLe (cC (.int 1)) (cUn oLenA (cVar 0)) (cC (.int 3))))) (cT (cBin oNeE (cLc (iStrX (cVar 0)) (.one 1) (cT (cBin (oInSg true) (cVar 1) (cC (.str "0123456789")))) (cVar 1) [1]) (cLst [])))) (sRet (cC .none)) (sNext)) (sRet (cIf (tAndX (cT (cBin oEq (cBin oIx (cVar 0) (cC (.int 0))) (cC (.str "0")))) (cT (cBin oNe (cVar 0) (cC (.str "0"))))) (cC .none) (cUn oIntS (cVar 0))))
noncomputable def F_q_figures : Dn.Fn := dBody 2 S_q_figures
theorem u_q_figures {a0 : RV} {f : Feed} : F_q_figures [a0] f = dEnd (S_q_figures [fnSlot a0, .emp] f) := rfl
/-- _law_chance(_law_word); slots: 0 _law_word, 1 _law_parts, 2 _law_part -/
noncomputable def S_q_chance_v2 : Sm := sSeq (sSet 1 (cLc (iSeq (cMetS oSplit (cVar 0) (cC (.str "/")))) (.one 2) (cYes) (cCall F_q_figures [cVar 2]) [2])) (sSeq (sFrz 1) (sSeq (sIf (tOrX (cT (cBin (oInF false) (cC .none) (cVar 1))) (cT (cBin oGt (cUn oLen (cVar 1)) (cC (.int 2))))) (sRet (cC .none)) (sNext)) (sSeq (sIf (cT (cBin oEq (cUn oLen (cVar 1)) (cC (.int 1)))) (sRet (cIf (cT (cBin oLt (cBin oIx (cVar 1) (cC (.int 0))) (cC (.int 2)))) (cTup [cBin oIx (cVar 1) (cC (.int 0)), cC (.int 1)]) (cC .none))) (sNext)) (sSeq (sIf (tOrX (tNotX (cT (cChain oLt oLt (cC (.int 0)) (cBin oIx (cVar 1) (cC (.int 0))) (cBin oIx (cVar 1) (cC (.int 1)))))) (cT (cBin oNe (cCall F_q_lowest [cBin oIx (cVar 1) (cC (.int 0)), cBin oIx (cVar 1) (cC (.int 1))]) (cTup [cBin oIx (cVar 1) (cC (.int 0)), cBin oIx (cVar 1) (cC (.int 1))])))) (sRet (cC .none)) (sNext)) (sRet (cTup [cBin oIx (cVar 1) (cC (.int 0)), cBin oIx (cVar 1) (cC (.int 1))]))))))
noncomputable def F_q_chance_v2 : Dn.Fn := dBody 3 S_q_chance_v2
theorem u_q_chance_v2 {a0 : RV} {f : Feed} : F_q_chance_v2 [a0] f = dEnd (S_q_chance_v2 [fnSlot a0, .emp, .emp] f) := rfl
/-- _law_signs(); slots: 0 _law_some -/
noncomputable def S_q_signs : Sm := sSeq (sSet 0 (cC (.str " !\"#$&'()*+,-./0123456789:;<=>?@ABCDEFGHIJKLMNOPQRSTUVWXYZ[\\]^_`"))) (sRet (cBin oAdd (cBin oAdd (cBin oAdd (cBin oAdd (cBin oAdd (cBin oAdd (cVar 0) (cC (.str "abcdefghijklmnopqrstuvwxyz{|}~"))) (cC (.str "   "))) (cC (.str "///"))) (cC (.str "0123456789"))) (cC (.str ";;--"))) (cC (.str ">>::"))))
noncomputable def F_q_signs : Dn.Fn := dBody 1 S_q_signs
theorem u_q_signs {f : Feed} : F_q_signs [] f = dEnd (S_q_signs [.emp] f) := rfl
/-- _law_signed(_law_feed_here, _law_text); slots: 0 _law_feed_here, 1 _law_text, 2 _law_way, 3 _law_at, 4 _law_sign, 5 _law_near, 6 _law_some -/
noncomputable def S_q_signed : Sm := sSeq (sSet 2 (cCall F_q_draw_v3 [cVar 0, cC (.int 4)])) (sSeq (sSet 3 (cCall F_q_draw_v3 [cVar 0, cBin oAdd (cUn oLenA (cVar 1)) (cC (.int 1))])) (sSeq (sSet 4 (cBin oIx (cCall F_q_signs []) (cCall F_q_draw_v3 [cVar 0, cUn oLenA (cCall F_q_signs [])]))) (sSeq (sSet 5 (cUn oRevS (cSlS (cVar 1) (some (cVar 3)) (some (cBin oAdd (cVar 3) (cC (.int 2))))))) (sSeq (sSet 6 (cLst [cBin oAdd (cBin oAdd (cSlS (cVar 1) none (some (cVar 3))) (cVar 4)) (cSlS (cVar 1) (some (cVar 3)) none), cBin oAdd (cBin oAdd (cSlS (cVar 1) none (some (cVar 3))) (cVar 4)) (cSlS (cVar 1) (some (cBin oAdd (cVar 3) (cC (.int 1)))) none), cBin oAdd (cSlS (cVar 1) none (some (cVar 3))) (cSlS (cVar 1) (some (cBin oAdd (cVar 3) (cC (.int 1)))) none)])) (sSeq (sFrz 6) (sRet (cBin oIx (cBin oAdd (cVar 6) (cLst [cBin oAdd (cBin oAdd (cSlS (cVar 1) none (some (cVar 3))) (cVar 5)) (cSlS (cVar 1) (some (cBin oAdd (cVar 3) (cC (.int 2)))) none)])) (cVar 2))))))))
noncomputable def F_q_signed : Dn.Fn := dBody 7 S_q_signed
theorem u_q_signed {a0 a1 : RV} {f : Feed} : F_q_signed [a0, a1] f = dEnd (S_q_signed [fnSlot a0, fnSlot a1, .emp, .emp, .emp, .emp, .emp] f) := rfl
/-- _law_read_life(_law_text); slots: 0 _law_text, 1 _law_words, 2 _law_row, 3 _law_total, 4 _law_at, 5 _law_step, 6 _law_behind_it, 7 _law_own -/
noncomputable def S_q_read_life : Sm := sSeq (sSet 1 (cMetS oSplit (cVar 0) (cC (.str " ")))) (sSeq (sFrz 1) (sSeq (sIf (cT (cBin oEq (cBin oIx (cVar 1) (cC (.int 0))) (cC (.str "-")))) (sRet (cIf (cT (cBin oGt (cUn oLen (cVar 1)) (cC (.int 1)))) (cC (.int 1)) (cLst [cTup [cTup [], cTup [cC (.int 0), cC (.int 1)]]]))) (sNext)) (sSeq (sSet 2 (cLst [])) (sSeq (sSet 3 (cTup [cC (.int 0), cC (.int 1)])) (sSeq (sFor (iRange1 (cUn oLen (cVar 1))) (.one 4) (sSeq (sIf (tAndX (cT (cBin oEq (cBin oIx (cVar 1) (cVar 4)) (cC (.str ";")))) (cT (cBin oGt (cVar 4) (cC (.int 0))))) (sSeq (sSet 5 (cIf (cT (cBin oLt (cBin oAdd (cVar 4) (cC (.int 1))) (cUn oLen (cVar 1)))) (cCall F_q_chance_v2 [cBin oIx (cVar 1) (cBin oAdd (cVar 4) (cC (.int 1)))]) (cC .none))) (sSeq (sIf (tOrX (cT (cBin (oIsN false) (cVar 5) (cC .none))) (tOrX (cT (cBin oEq (cBin oIx (cVar 5) (cC (.int 0))) (cC (.int 0)))) (cT (cBin oEq (cVar 5) (cTup [cC (.int 1), cC (.int 1)]))))) (sRet (cBin oAdd (cVar 4) (cC (.int 1)))) (sNext)) (sSeq (sSet 6 (cCall F_q_by [cBin oIx (cVar 2) (cUn oNeg (cC (.int 1))), cCall F_q_lowest [cBin oIx (cVar 5) (cC (.int 0)), cBin oSub (cBin oIx (cVar 5) (cC (.int 1))) (cBin oIx (cVar 5) (cC (.int 0)))]])) (sSeq (sIf (cT (cCall F_q_is_over [cCall F_q_add [cVar 3, cVar 6]])) (sRet (cBin oAdd (cVar 4) (cC (.int 1)))) (sNext)) (sRet (cIf (cT (cBin oGt (cUn oLen (cVar 1)) (cBin oAdd (cVar 4) (cC (.int 2))))) (cBin oAdd (cVar 4) (cC (.int 2))) (cLst [cTup [cUn oTuple (cVar 2), cVar 5]]))))))) (sNext)) (sSeq (sSet 7 (cCall F_q_chance_v2 [cBin oIx (cVar 1) (cVar 4)])) (sSeq (sIf (tOrX (cT (cBin (oIsN false) (cVar 7) (cC .none))) (cT (cCall F_q_is_over [cCall F_q_add [cVar 3, cVar 7]]))) (sRet (cVar 4)) (sNext)) (sSeq (sSet 3 (cCall F_q_add [cVar 3, cVar 7])) (sApp 2 (cVar 7))))))) (sSeq (sFrz 2) (sRet (cLst [cTup [cUn oTuple (cVar 2), cTup [cC (.int 0), cC (.int 1)]]]))))))))
noncomputable def F_q_read_life : Dn.Fn := dBody 8 S_q_read_life
theorem u_q_read_life {a0 : RV} {f : Feed} : F_q_read_life [a0] f = dEnd (S_q_read_life [fnSlot a0, .emp, .emp, .emp, .emp, .emp, .emp, .emp] f) := rfl
/-- _law_worded(_law_feed_here, _law_text); slots: 0 _law_feed_here, 1 _law_text, 2 _law_words, 3 _law_way, 4 _law_at, 5 _law_menu, 6 _law_word -/
noncomputable def S_q_worded : Sm := sSeq (sSet 2 (cMetS oSplit (cVar 1) (cC (.str " ")))) (sSeq (sFrz 2) (sSeq (sSet 3 (cCall F_q_draw_v3 [cVar 0, cC (.int 4)])) (sSeq (sSet 4 (cCall F_q_draw_v3 [cVar 0, cBin oAdd (cUn oLen (cVar 2)) (cC (.int 1))])) (sSeq (sSet 5 (cLst [cC (.str ""), cC (.str "0"), cC (.str "1"), cC (.str "-"), cC (.str ";"), cC (.str "1/2"), cC (.str "1/3"), cC (.str "2/4"), cC (.str "1/1"), cC (.str "0/1"), cC (.str "3/2"), cC (.str "2"), cC (.str "01"), cC (.str "1/02"), cC (.str "-1/2"), cC (.str "1/"), cC (.str "/2")])) (sSeq (sFrz 5) (sSeq (sSet 5 (cBin oAdd (cVar 5) (cLst [cC (.str "1/2/3"), cC (.str "998/999"), cC (.str "1/1000"), cC (.str "1/999"), cC (.str "00"), cC (.str "1/0"), cC (.str "+1"), cC (.str "1;2"), cC (.str "x")]))) (sSeq (sFrz 5) (sSeq (sSet 6 (cBin oIx (cVar 5) (cCall F_q_draw_v3 [cVar 0, cC (.int 26)]))) (sRet (cMetS oJoin (cC (.str " ")) (cBin oAdd (cBin oAdd (cSl (cVar 2) none (some (cVar 4))) (cBin oIx (cLst [cLst [], cLst [cVar 6], cBin oMul (cSl (cVar 2) (some (cVar 4)) (some (cBin oAdd (cVar 4) (cC (.int 1))))) (cC (.int 2)), cLst [cVar 6]]) (cVar 3))) (cSl (cVar 2) (some (cBin oAdd (cVar 4) (cUn oInt (cBin oNe (cVar 3) (cC (.int 3)))))) none))))))))))))
noncomputable def F_q_worded : Dn.Fn := dBody 7 S_q_worded
theorem u_q_worded {a0 a1 : RV} {f : Feed} : F_q_worded [a0, a1] f = dEnd (S_q_worded [fnSlot a0, fnSlot a1, .emp, .emp, .emp, .emp, .emp] f) := rfl
/-- read_step(words, row); slots: 0 words, 1 row, 2 at, 3 step -/
noncomputable def S_read_step_X : Sm := sSeq (sSet 2 (cUn oLen (cVar 1))) (sSeq (sIf (cT (cBin oEq (cUn oLen (cVar 0)) (cBin oAdd (cVar 2) (cC (.int 1))))) (sRaise "NoText" ["at"] [cBin oAdd (cVar 2) (cC (.int 1))]) (sNext)) (sSeq (sSet 3 (cCall F_chance_in [cBin oIx (cVar 0) (cBin oAdd (cVar 2) (cC (.int 1)))])) (sSeq (sIf (tOrX (cT (cBin (oIsN false) (cVar 3) (cC .none))) (tOrX (cT (cBin oEq (cVar 3) (cC d_NOUGHT))) (tNotX (cT (cCall F_is_life [cTup [cUn oTuple (cVar 1), cVar 3]]))))) (sRaise "NoText" ["at"] [cBin oAdd (cVar 2) (cC (.int 1))]) (sNext)) (sSeq (sIf (cT (cBin oGt (cUn oLen (cVar 0)) (cBin oAdd (cVar 2) (cC (.int 2))))) (sRaise "NoText" ["at"] [cBin oAdd (cVar 2) (cC (.int 2))]) (sNext)) (sRet (cTup [cUn oTuple (cVar 1), cVar 3]))))))
noncomputable def F_read_step_X : Dn.Fn := dBodyX 4 S_read_step_X
theorem u_read_step_X {a0 a1 : RV} {f : Feed} : F_read_step_X [a0, a1] f = dEndX (S_read_step_X [fnSlot a0, fnSlot a1, .emp, .emp] f) := rfl
/-- read_life(text); slots: 0 text, 1 words, 2 row, 3 total, 4 at, 5 word, 6 chance -/
noncomputable def S_read_life_X : Sm := sSeq (sSet 1 (cMetS oSplit (cVar 0) (cC (.str " ")))) (sSeq (sFrz 1) (sSeq (sIf (cT (cBin oEq (cBin oIx (cVar 1) (cC (.int 0))) (cC d_NONE_THERE))) (sSeq (sIf (cT (cBin oGt (cUn oLen (cVar 1)) (cC (.int 1)))) (sRaise "NoText" ["at"] [cC (.int 1)]) (sNext)) (sRet (cTup [cTup [], cC d_NOUGHT]))) (sNext)) (sSeq (sSet 2 (cLst [])) (sSeq (sSet 3 (cC d_NOUGHT)) (sSeq (sFor (iEnum (cVar 1)) (.many [4, 5]) (sSeq (sIf (tAndX (cT (cBin oEq (cVar 5) (cC d_BEHIND))) (cT (cBin oGt (cVar 4) (cC (.int 0))))) (sSeq (sFrz 2) (sRet (cCall F_read_step_X [cVar 1, cVar 2]))) (sNext)) (sSeq (sSet 6 (cCall F_chance_in [cVar 5])) (sSeq (sIf (cT (cBin (oIsN false) (cVar 6) (cC .none))) (sRaise "NoText" ["at"] [cVar 4]) (sNext)) (sSeq (sSet 3 (cCall F_plus [cVar 3, cVar 6])) (sSeq (sIf (cT (cCall F_is_below [cC d_ONE, cVar 3])) (sRaise "NoText" ["at"] [cVar 4]) (sNext)) (sApp 2 (cVar 6)))))))) (sSeq (sFrz 2) (sRet (cTup [cUn oTuple (cVar 2), cC d_NOUGHT]))))))))
noncomputable def F_read_life_X : Dn.Fn := dBodyX 7 S_read_life_X
theorem u_read_life_X {a0 : RV} {f : Feed} : F_read_life_X [a0] f = dEndX (S_read_life_X [fnSlot a0, .emp, .emp, .emp, .emp, .emp, .emp] f) := rfl
/-- _law_told(_law_text); slots: 0 _law_text, 1 _law_found, 2 e, 3 _law_others -/
noncomputable def S_q_told_v6 : Sm := sSeq (sSet 1 (cC (.str "other"))) (sSeq (sTryS 1 2 (cLst [cCall F_read_life_X [cVar 0]]) ["NoText"] (sSeq (sSet 3 (cUn (oIsEs ["NoAge", "NoBeat", "NoLines", "NoName", "NoPaper", "NoRatio", "NoRow", "TooMany"]) (cVar 2))) (sIf (tAndX (cT (cUn (oIsE "NoText") (cVar 2))) (tAndX (cT (cUn (oIsE "ValueError") (cVar 2))) (tNotX (cT (cVar 3))))) (sSet 1 (cUn (oFld "at") (cVar 2))) (sNext)))) (sRet (cVar 1)))
noncomputable def F_q_told_v6 : Dn.Fn := dBody 4 S_q_told_v6
theorem u_q_told_v6 {a0 : RV} {f : Feed} : F_q_told_v6 [a0] f = dEnd (S_q_told_v6 [fnSlot a0, .emp, .emp, .emp] f) := rfl
/-- _law_wide_texts(_law_feed_here); slots: 0 _law_feed_here, 1 _law_words, 2 _law_text -/
noncomputable def S_q_wide_texts : Sm := sSeq (sSet 1 (cBin oAdd (cBin oMul (cLst [cC (.str "0")]) (cBin oAdd (cC (.int 13)) (cCall F_q_draw_v3 [cVar 0, cC (.int 28)]))) (cLst [cBin oIx (cLst [cC (.str "1/2"), cC (.str "1/3"), cC (.str "1/999"), cC (.str "1")]) (cCall F_q_draw_v3 [cVar 0, cC (.int 4)]), cC (.str ";")]))) (sSeq (sFrz 1) (sSeq (sSet 2 (cMetS oJoin (cC (.str " ")) (cBin oAdd (cVar 1) (cLst [cBin oIx (cLst [cC (.str "1/2"), cC (.str "1/3"), cC (.str "2/3"), cC (.str "998/999")]) (cCall F_q_draw_v3 [cVar 0, cC (.int 4)])])))) (sRet (cLst [cVar 2, cCall F_q_worded [cVar 0, cVar 2], cCall F_q_worded [cVar 0, cVar 2], cVar 2]))))
noncomputable def F_q_wide_texts : Dn.Fn := dBody 3 S_q_wide_texts
theorem u_q_wide_texts {a0 : RV} {f : Feed} : F_q_wide_texts [a0] f = dEnd (S_q_wide_texts [fnSlot a0, .emp, .emp] f) := rfl
end Fp
namespace Fp
open PySem PySem.Spec L2 Dn
/-- no dict, small texts, ints of at most 560 figures, depth and bulk bounded -/
structure Nice (b k : Nat) (d : PyData) : Prop where
  can : d.canLay0 = true
  sh : d.showable = true
  short : d.intsShort 600 = true
  dep : d.depth ≤ k
  bk : d.bulk ≤ b
structure NiceL (b k : Nat) (ds : List PyData) : Prop where
  can : PyData.canLayAll0 ds = true
  sh : PyData.showableAll ds = true
  short : PyData.intsShortAll 600 ds = true
  dep : PyData.depthAll ds ≤ k
  bk : PyData.bulkAll ds ≤ b
theorem Nice.up {b k c l : Nat} {d : PyData} (h : Nice b k d) (hb : b ≤ c) (hk : k ≤ l) : Nice c l d := ⟨h.can, h.sh, h.short, Nat.le_trans h.dep hk, Nat.le_trans h.bk hb⟩
theorem Nice.shaped {b k : Nat} {d : PyData} (h : Nice b k d) (hk : k ≤ 64) : SeqAt.shaped d = true := by
  unfold SeqAt.shaped
  rw [h.can, decide_eq_true (Nat.le_trans h.dep hk)]
  rfl
theorem Nice.shows {b k : Nat} {d : PyData} (h : Nice b k d) (hk : k ≤ 60) (hb : b ≤ 16000) : shows d = true := by
  have hd : d.hasDict = false := PyData.hasDict_of_canLay d h.can
  have hl := PyData.shown_le_bulk 600 (by decide) d (PyData.leavesShort_of_canLay0 600 d h.can h.short)
  have h3 : d.shown.length ≤ 10000000 := by
    have := h.bk
    have e : (600 + 2) * d.bulk ≤ 602 * 16000 := Nat.mul_le_mul_left _ (by omega)
    omega
  unfold Dn.shows
  rw [h.sh, hd, decide_eq_true (Nat.le_trans h.dep hk), decide_eq_true h3]
  rfl
theorem nice_int {i : Int} (h : i.natAbs < 10 ^ 560) : Nice 0 0 (.int i) := by
  refine ⟨rfl, ?_, ?_, Nat.le_refl 0, Nat.le_refl 0⟩
  · simp only [PyData.showable, decide_eq_true_eq]
    by_cases z : i.natAbs = 0
    · rw [z]
      decide
    · rw [Nat.log2_lt z]
      exact Nat.lt_of_lt_of_le h (by decide)
  · simp only [PyData.intsShort, decide_eq_true_eq]
    have e := int_text_length_le10 (k := 560) (by decide) h
    show (Str.ofString (toString i)).length ≤ 600
    rw [ofString_length]
    omega
theorem niceL_nil {k : Nat} : NiceL 0 k [] := ⟨rfl, rfl, rfl, Nat.zero_le _, Nat.le_refl 0⟩
theorem niceL_cons {b c k : Nat} {d : PyData} {ds : List PyData} (h : Nice b k d) (t : NiceL c k ds) : NiceL (b + 1 + c) k (d :: ds) := by
  refine ⟨?_, ?_, ?_, ?_, ?_⟩
  · simp only [PyData.canLayAll0, h.can, t.can, Bool.and_self]
  · simp only [PyData.showableAll, h.sh, t.sh, Bool.and_self]
  · simp only [PyData.intsShortAll, h.short, t.short, Bool.and_self]
  · simp only [PyData.depthAll]
    exact Nat.max_le.mpr ⟨h.dep, t.dep⟩
  · simp only [PyData.bulkAll]
    have := h.bk
    have := t.bk
    omega
theorem niceL_of {b k : Nat} : ∀ {ds : List PyData}, (∀ d ∈ ds, Nice b k d) → NiceL (ds.length * (b + 1)) k ds
  | [], _ => by
    rw [List.length_nil, Nat.zero_mul]
    exact niceL_nil
  | d :: ds, h => by
    have q := niceL_cons (h d List.mem_cons_self) (niceL_of fun e he => h e (List.mem_cons_of_mem _ he))
    have e : (d :: ds).length * (b + 1) = b + 1 + ds.length * (b + 1) := by
      rw [List.length_cons, Nat.add_mul, Nat.one_mul, Nat.add_comm]
    rw [e]
    exact q
theorem NiceL.up {b k c l : Nat} {ds : List PyData} (h : NiceL b k ds) (hb : b ≤ c) (hk : k ≤ l) : NiceL c l ds := ⟨h.can, h.sh, h.short, Nat.le_trans h.dep hk, Nat.le_trans h.bk hb⟩
theorem nice_tuple {b k : Nat} {ds : List PyData} (h : NiceL b k ds) : Nice b (k + 1) (.tuple ds) :=
  ⟨by simpa only [PyData.canLay0] using h.can, by simpa only [PyData.showable] using h.sh, by simpa only [PyData.intsShort] using h.short, by simpa only [PyData.depth] using Nat.succ_le_succ h.dep, by simpa only [PyData.bulk] using h.bk⟩
theorem nice_list {b k : Nat} {ds : List PyData} (h : NiceL b k ds) : Nice b (k + 1) (.list ds) :=
  ⟨by simpa only [PyData.canLay0] using h.can, by simpa only [PyData.showable] using h.sh, by simpa only [PyData.intsShort] using h.short, by simpa only [PyData.depth] using Nat.succ_le_succ h.dep, by simpa only [PyData.bulk] using h.bk⟩
theorem canLay_ints : ∀ ns : List Int, PyData.canLayAll0 (ns.map .int) = true
  | [] => rfl
  | n :: r => by
    simp only [List.map_cons, PyData.canLayAll0, PyData.canLay0, canLay_ints r, Bool.and_self]
theorem depth_ints : ∀ ns : List Int, PyData.depthAll (ns.map .int) = 0
  | [] => rfl
  | n :: r => by
    simp only [List.map_cons, PyData.depthAll, PyData.depth, depth_ints r, Nat.max_self]
@[simp] theorem shaped_int {i : Int} : SeqAt.shaped (.int i) = true := rfl
@[simp] theorem shaped_bool {i : Bool} : SeqAt.shaped (.bool i) = true := rfl
theorem shaped_tuple {ds : List PyData} (h : PyData.canLayAll0 ds = true) (h2 : PyData.depthAll ds ≤ 63) : SeqAt.shaped (.tuple ds) = true := by
  unfold SeqAt.shaped
  have e1 : PyData.canLay0 (.tuple ds) = true := by simpa only [PyData.canLay0] using h
  have e2 : PyData.depth (.tuple ds) = PyData.depthAll ds + 1 := by simp only [PyData.depth]
  rw [e1, e2]
  exact decide_eq_true (by omega)
theorem shaped_list {ds : List PyData} (h : PyData.canLayAll0 ds = true) (h2 : PyData.depthAll ds ≤ 63) : SeqAt.shaped (.list ds) = true := by
  unfold SeqAt.shaped
  have e1 : PyData.canLay0 (.list ds) = true := by simpa only [PyData.canLay0] using h
  have e2 : PyData.depth (.list ds) = PyData.depthAll ds + 1 := by simp only [PyData.depth]
  rw [e1, e2]
  exact decide_eq_true (by omega)
@[simp] theorem shaped_list_ints {ns : List Int} : SeqAt.shaped (.list (ns.map .int)) = true := shaped_list (canLay_ints ns) (by rw [depth_ints]; decide)
@[simp] theorem shaped_list_nil : SeqAt.shaped (.list []) = true := rfl
theorem eqv_ints : ∀ (ns ms : List Int), PyData.eqvAll (ns.map .int) (ms.map .int) = decide (ns = ms)
  | [], [] => rfl
  | [], m :: ms => by
    simp only [List.map_nil, List.map_cons, PyData.eqvAll]
    exact (decide_eq_false (fun h => by cases h)).symm
  | n :: ns, [] => by
    simp only [List.map_nil, List.map_cons, PyData.eqvAll]
    exact (decide_eq_false (fun h => by cases h)).symm
  | n :: ns, m :: ms => by
    simp only [List.map_cons, PyData.eqvAll, PyData.eqv, eqv_ints ns ms]
    by_cases h : n = m
    · by_cases h2 : ns = ms
      · simp [h, h2]
      · simp [h, h2]
    · simp [h]
theorem log2_small {i : Int} {k : Nat} (h : i.natAbs < 2 ^ k) (hk : 0 < k) : i.natAbs.log2 < k := by
  by_cases z : i.natAbs = 0
  · rw [z]
    exact hk
  · exact (Nat.log2_lt z).mpr h
theorem mulC_small {i j : Int} {k l : Nat} (h : i.natAbs < 2 ^ k) (h2 : j.natAbs < 2 ^ l) (hk : k + l < 1000000) (h0 : 0 < k := by decide) (h1 : 0 < l := by decide) : mulC i j = true := by
  have a := log2_small h h0
  have b := log2_small h2 h1
  exact decide_eq_true (by omega)
/-- what a draw tells -/
structure Fd (t : Int) (f : Feed) : Prop where
  t0 : 0 ≤ f.turn
  t1 : f.turn ≤ t
  s0 : 0 ≤ f.spot
  s1 : f.spot ≤ t
theorem Fd.up {t u : Int} {f : Feed} (h : Fd t f) (hu : t ≤ u) : Fd u f := ⟨h.t0, Int.le_trans h.t1 hu, h.s0, Int.le_trans h.s1 hu⟩
theorem fd_a {t l : Int} {f : Feed} {cs : List Int} (h : Fd t f) : Fd (t + 1) ⟨cs, f.spot, l, f.turn + 1⟩ := ⟨by have := h.t0; show 0 ≤ f.turn + 1; omega, by have := h.t1; show f.turn + 1 ≤ t + 1; omega, h.s0, by have := h.s1; show f.spot ≤ t + 1; omega⟩
theorem fd_b {t l : Int} {f : Feed} {cs : List Int} (h : Fd t f) : Fd (t + 1) ⟨cs, f.spot + 1, l, f.turn + 1⟩ := ⟨by have := h.t0; show 0 ≤ f.turn + 1; omega, by have := h.t1; show f.turn + 1 ≤ t + 1; omega, by have := h.s0; show 0 ≤ f.spot + 1; omega, by have := h.s1; show f.spot + 1 ≤ t + 1; omega⟩
def Drawn (t : Int) (s : Int) (rv : RV) (f2 : Feed) : Prop := ∃ i : Int, rv = .dat (.int i) ∧ 0 ≤ i ∧ i < s ∧ Fd (t + 1) f2
theorem cells_ne (f : Feed) : oNe (.list (f.cells.map .int)) (.list []) = some (.dat (.bool (!decide (f.cells = [])))) := by
  rw [oNe_of shaped_list_ints shaped_list_nil]
  have := eqv_ints f.cells []
  rw [List.map_nil] at this
  simp only [PyData.eqv, this]
@[simp] theorem ne_nil2 : oNe (.list []) (.list []) = some (.dat (.bool false)) := by
  rw [oNe_of rfl rfl]
  rfl
theorem at_mod {cs : List Int} {i : Int} (h : ¬ cs = []) : oMod (.int i) (.int cs.length) = some (.dat (.int (i % cs.length))) ∧ ∃ c, atI (cs.map PyData.int) (i % cs.length) = some (.int c) := by
  have hl : (0 : Int) < cs.length := by
    have := List.length_pos_iff.mpr h
    omega
  refine ⟨oMod_int hl, ?_⟩
  have h1 := Int.emod_nonneg i (show (cs.length : Int) ≠ 0 by omega)
  have h2 := Int.emod_lt_of_pos i hl
  obtain ⟨n, e⟩ := Int.eq_ofNat_of_zero_le h1
  rw [e] at h2 ⊢
  have hn : n < cs.length := by omega
  exact ⟨cs[n], by rw [Dn.atI_nat, List.getElem?_map, List.getElem?_eq_getElem hn]; rfl⟩
theorem drawn_mk {t : Int} {s i : Int} (hs : 0 < s) {g : Feed} (h : Fd (t + 1) g) : Drawn t s (.dat (.int (i % s))) g := ⟨_, rfl, Int.emod_nonneg _ (by omega), Int.emod_lt_of_pos _ hs, h⟩
theorem draw_v3_ok {s t : Int} {f : Feed} (hs : 0 < s) (h2 : s < 2 ^ 500) (hF : Fd t f) (ht : t < 2 ^ 40) : Ev (F_q_draw_v3 [.feed, .dat (.int s)] f) (Drawn t s) := by
  have t0 := hF.t0
  have t1 := hF.t1
  have t2 := hF.s0
  have t3 := hF.s1
  have hl : s.natAbs.log2 < 9000 := Nat.lt_trans (log2_small (k := 500) (by omega) (by decide)) (by decide)
  have m1 : oMul (.int 40009) (.int (f.turn + 1)) = some (.dat (.int (40009 * (f.turn + 1)))) := oMul_int (mulC_small (k := 16) (l := 41) (by decide) (by omega) (by decide))
  have m2 : oMul (.int 99991) (.int (f.turn + 1)) = some (.dat (.int (99991 * (f.turn + 1)))) := oMul_int (mulC_small (k := 17) (l := 41) (by decide) (by omega) (by decide))
  have p0 : oPow (.int 10) (.int 18) = some (.dat (.int (10 ^ 18))) := oPow_int (by decide) (by decide) (by decide)
  have p1 : ∀ c : Int, oPow (.int (c % 999983 + 40009 * (f.turn + 1) + 11)) (.int 5) = some (.dat (.int ((c % 999983 + 40009 * (f.turn + 1) + 11) ^ 5))) := fun c => oPow_int (by decide) (by decide) (by omega)
  have p2 : ∀ c : Int, oPow (.int (c % 2147483647 + 99991 * (f.turn + 1))) (.int 5) = some (.dat (.int ((c % 2147483647 + 99991 * (f.turn + 1)) ^ 5))) := fun c => oPow_int (by decide) (by decide) (by omega)
  have q1 : ∀ c : Int, oMod (.int c) (.int 999983) = some (.dat (.int (c % 999983))) := fun c => oMod_int (by decide)
  have q2 : ∀ c : Int, oMod (.int c) (.int 2147483647) = some (.dat (.int (c % 2147483647))) := fun c => oMod_int (by decide)
  have q3 : ∀ c : Int, oMod (.int c) (.int 2147483587) = some (.dat (.int (c % 2147483587))) := fun c => oMod_int (by decide)
  have q4 : ∀ c : Int, oDiv (.int c) (.int 16) = some (.dat (.int (c / 16))) := fun c => oDiv_int (by decide) (by decide)
  have p9 : oPow (.int (5 + 40009 * (f.turn + 1) + 11)) (.int 5) = some (.dat (.int ((5 + 40009 * (f.turn + 1) + 11) ^ 5))) := oPow_int (by decide) (by decide) (by omega)
  rw [u_q_draw_v3, ev_dEnd]
  unfold S_q_draw_v3
  simp only [e_seq, e_set, e_feedS, e_feed, e_Bin, e_V, e_C, e_if, e_T, e_ret, e_next]
  simp [oMod_int hs, oDiv_int hs hl, ev_ite]
  refine ⟨fun h => drawn_mk hs (by first | exact fd_a hF | exact fd_b hF), fun h => ?_⟩
  by_cases hc : f.cells = []
  · simp [cells_ne, p9, hc, ev_ite, oMod_int hs, oDiv_int hs hl, m1, m2, p0, p1, p2, q1, q2, q3, q4]
    repeat' (first | exact drawn_mk hs (by first | exact fd_a hF | exact fd_b hF) | apply And.intro | intro _)
  · obtain ⟨w1, c, w2⟩ := at_mod (i := f.spot) hc
    simp [cells_ne, p9, hc, ev_ite, oMod_int hs, oDiv_int hs hl, m1, m2, p0, p1, p2, q1, q2, q3, q4, w1, w2]
    repeat' (first | exact drawn_mk hs (by first | exact fd_a hF | exact fd_b hF) | apply And.intro | intro _)
end Fp
namespace Fp
open PySem PySem.Spec L2 Dn
abbrev rat (p : Int) (q : Nat) : PyData := .tuple [.int p, .int q]
/-- in lowest terms -/
def low (p : Int) (q : Nat) : PyData := rat (p / (Nat.gcd p.natAbs q : Nat)) (q / Nat.gcd p.natAbs q)
theorem common_ok {a b : Nat} {f : Feed} : F_common [.dat (.int a), .dat (.int b)] f = .ok (.dat (.int (Nat.gcd a b : Nat))) f := by
  apply ev_is
  rw [u_common, ev_dEnd]
  unfold S_common
  simp only [e_seq, ev_bind]
  refine ev_while (I := fun n ρ g => g = f ∧ ∃ x y : Nat, n = y ∧ ρ = [.dat (.int x), .dat (.int y)] ∧ Nat.gcd x y = Nat.gcd a b) (n := b) ?_ ⟨rfl, a, b, rfl, rfl, rfl⟩
  rintro n ρ g ⟨rfl, x, y, rfl, rfl, e⟩
  simp
  refine ⟨fun h => ?_, fun h => ?_⟩
  · have hy : (0 : Int) < n := by omega
    simp [oMod_int hy]
    exact ⟨x % n, Nat.mod_lt _ (by omega), n, ⟨rfl, by omega⟩, by rw [← e, Nat.gcd_comm x n, Nat.gcd_rec n x]; exact Nat.gcd_comm _ _⟩
  · subst h
    rw [Nat.gcd_zero_right] at e
    rw [e]
theorem lowest_ok {a : Int} {b : Nat} {f : Feed} (hb : 0 < b) (h2 : b < 2 ^ 2000) : F_q_lowest [.dat (.int a), .dat (.int b)] f = .ok (.dat (low a b)) f := by
  have hg : 0 < Nat.gcd a.natAbs b := Nat.gcd_pos_of_pos_right _ hb
  have hl : Nat.gcd a.natAbs b ≤ b := Nat.gcd_le_right _ hb
  have d1 : ∀ c : Int, oDiv (.int c) (.int (Nat.gcd a.natAbs b : Nat)) = some (.dat (.int (c / (Nat.gcd a.natAbs b : Nat)))) := fun c => oDiv_int (by omega) (Nat.lt_trans (log2_small (k := 2000) (by rw [Int.natAbs_natCast]; omega) (by decide)) (by decide))
  apply ev_is
  rw [u_q_lowest, ev_dEnd]
  unfold S_q_lowest
  simp
  refine ev_while (I := fun n ρ g => g = f ∧ ∃ x y : Nat, n = y ∧ ρ = [.dat (.int a), .dat (.int b), .dat (.int x), .dat (.int y)] ∧ Nat.gcd x y = Nat.gcd a.natAbs b) (n := b) ?_ ⟨rfl, a.natAbs, b, rfl, rfl, rfl⟩
  rintro n ρ g ⟨rfl, x, y, rfl, rfl, e⟩
  simp
  refine ⟨fun h => ?_, fun h => ?_⟩
  · have hy : (0 : Int) < n := by omega
    simp [oMod_int hy]
    exact ⟨x % n, Nat.mod_lt _ (by omega), n, ⟨rfl, by omega⟩, by rw [← e, Nat.gcd_comm x n, Nat.gcd_rec n x]; exact Nat.gcd_comm _ _⟩
  · subst h
    rw [Nat.gcd_zero_right] at e
    subst e
    simp [d1, low]
@[simp] theorem is_whole_int {i : Int} {f : Feed} : F_is_whole [.dat (.int i)] f = .ok (.dat (.bool true)) f := by
  apply ev_is
  rw [u_is_whole, ev_dEnd]
  unfold S_is_whole
  simp [isOf, tyName]
/-- what the lowest terms are -/
theorem low_parts (p : Int) {q : Nat} (hq : 0 < q) : ∃ (g : Nat) (a : Int) (b : Nat), 0 < g ∧ 0 < b ∧ p = g * a ∧ q = g * b ∧ Nat.gcd a.natAbs b = 1 ∧ low p q = rat a b := by
  have hg : 0 < Nat.gcd p.natAbs q := Nat.gcd_pos_of_pos_right _ hq
  have d1 : ((Nat.gcd p.natAbs q : Nat) : Int) ∣ p := Int.ofNat_dvd_left.mpr (Nat.gcd_dvd_left _ _)
  have d2 : Nat.gcd p.natAbs q ∣ q := Nat.gcd_dvd_right _ _
  refine ⟨Nat.gcd p.natAbs q, p / (Nat.gcd p.natAbs q : Nat), q / Nat.gcd p.natAbs q, hg, Nat.div_pos (Nat.le_of_dvd hq d2) hg, (Int.mul_ediv_cancel' d1).symm, (Nat.mul_div_cancel' d2).symm, ?_, rfl⟩
  rw [Int.natAbs_ediv_of_dvd d1, Int.natAbs_natCast]
  exact Nat.gcd_div_gcd_div_gcd_of_pos_right hq
theorem eqv_rat {p r : Int} {q s : Nat} : PyData.eqv (rat p q) (rat r s) = (decide (p = r) && decide (q = s)) := by
  simp only [PyData.eqv, PyData.eqvAll, Bool.and_true]
  congr 1
  by_cases h : q = s
  · rw [h]
    simp
  · simp [h]
    omega
theorem shaped_rat {p : Int} {q : Nat} : SeqAt.shaped (rat p q) = true := by
  apply shaped_tuple
  · simp [PyData.canLayAll0, PyData.canLay0]
  · simp [PyData.depthAll, PyData.depth]
theorem nice_rat {p : Int} {q : Nat} (h1 : p.natAbs < 10 ^ 560) (h2 : q < 10 ^ 560) : Nice 2 1 (rat p q) :=
  nice_tuple ((niceL_cons (nice_int h1) (niceL_cons (nice_int (by rw [Int.natAbs_natCast]; exact h2)) niceL_nil)).up (by decide) (by decide))
theorem smallI_ok {n : Int} (h : 0 ≤ n) (h2 : n < 2 ^ 60) : smallI n = true := by
  unfold smallI
  rw [decide_eq_true (by omega), decide_eq_true (by omega)]
  rfl
theorem range_len {lo : Int} {n : Nat} : (rangeD lo n).length = n := by simp [rangeD]
theorem range_at {lo : Int} {n i : Nat} {d : PyData} (h : (rangeD lo n)[i]? = some d) : d = .int (lo + i) ∧ i < n := by
  have hi : i < n := by
    have := (List.getElem?_eq_some_iff.mp h).1
    rwa [range_len] at this
  unfold rangeD at h
  rw [List.getElem?_map, List.getElem?_range hi] at h
  cases h
  exact ⟨rfl, hi⟩
@[simp] theorem oSum_nats {ns : List Nat} : oSum (.list (ns.map fun (n : Nat) => .int n)) = some (.dat (.int (ns.sum : Nat))) := by
  have := oSum_ints (ns := ns.map fun (n : Nat) => (n : Int))
  rw [List.map_map] at this
  refine this.trans ?_
  congr 3
  induction ns with
  | nil => rfl
  | cons n r ih =>
    rw [List.map_cons, List.sum_cons, List.sum_cons, ih (by
      have := oSum_ints (ns := r.map fun (n : Nat) => (n : Int))
      rw [List.map_map] at this
      exact this)]
    simp
theorem cutD_take {ds : List PyData} {n : Nat} : cutD ds none (some (n : Int)) = ds.take n := by
  unfold cutD
  rw [HT.sIx_none, HT.sIx_nat]
  simp
theorem Ev.drawn {β : Type} {t s : Int} {r : R RV} {k : PyData → Feed → R β} {Q : β → Feed → Prop} (h : Ev r (Drawn t s)) (hk : ∀ i g, 0 ≤ i → i < s → Fd (t + 1) g → Ev (k (.int i) g) Q) : Ev (pk r k) Q := by
  obtain ⟨_, g, e, i, rfl, h0, h1, hF⟩ := h
  rw [e]
  exact hk i g h0 h1 hF
theorem Ev.drawnE {t s : Int} {r : R RV} {Q : RV → Feed → Prop} (h : Ev r (Drawn t s)) (hk : ∀ i g, 0 ≤ i → i < s → Fd (t + 1) g → Q (.dat (.int i)) g) : Ev r Q := by
  obtain ⟨_, g, e, i, rfl, h0, h1, hF⟩ := h
  rw [e]
  exact ev_ok.mpr (hk i g h0 h1 hF)
theorem mem_le_sum : ∀ {l : List Nat} {x : Nat}, x ∈ l → x ≤ l.sum
  | y :: l, x, h => by
    rw [List.sum_cons]
    rcases List.mem_cons.mp h with e | h
    · omega
    · have := mem_le_sum h
      omega
end Fp
namespace Fp
open PySem PySem.Spec L2 Dn
section
variable {b : Bool} {i : Int} {x : Str} {xs : List PyData} {kvs : List (PyData × PyData)}
@[simp] theorem is_int_none : isOf "int" .none = false := nr rfl
@[simp] theorem is_int_bool : isOf "int" (.bool b) = true := nr rfl
@[simp] theorem is_int_int : isOf "int" (.int i) = true := nr rfl
@[simp] theorem is_int_str : isOf "int" (.str x) = false := nr rfl
@[simp] theorem is_int_list : isOf "int" (.list xs) = false := nr rfl
@[simp] theorem is_int_tuple : isOf "int" (.tuple xs) = false := nr rfl
@[simp] theorem is_int_dict : isOf "int" (.dict kvs) = false := nr rfl
@[simp] theorem is_bool_none : isOf "bool" .none = false := nr rfl
@[simp] theorem is_bool_bool : isOf "bool" (.bool b) = true := nr rfl
@[simp] theorem is_bool_int : isOf "bool" (.int i) = false := nr rfl
@[simp] theorem is_bool_str : isOf "bool" (.str x) = false := nr rfl
@[simp] theorem is_bool_list : isOf "bool" (.list xs) = false := nr rfl
@[simp] theorem is_bool_tuple : isOf "bool" (.tuple xs) = false := nr rfl
@[simp] theorem is_bool_dict : isOf "bool" (.dict kvs) = false := nr rfl
@[simp] theorem is_str_none : isOf "str" .none = false := nr rfl
@[simp] theorem is_str_bool : isOf "str" (.bool b) = false := nr rfl
@[simp] theorem is_str_int : isOf "str" (.int i) = false := nr rfl
@[simp] theorem is_str_str : isOf "str" (.str x) = true := nr rfl
@[simp] theorem is_str_list : isOf "str" (.list xs) = false := nr rfl
@[simp] theorem is_str_tuple : isOf "str" (.tuple xs) = false := nr rfl
@[simp] theorem is_str_dict : isOf "str" (.dict kvs) = false := nr rfl
@[simp] theorem is_list_none : isOf "list" .none = false := nr rfl
@[simp] theorem is_list_bool : isOf "list" (.bool b) = false := nr rfl
@[simp] theorem is_list_int : isOf "list" (.int i) = false := nr rfl
@[simp] theorem is_list_str : isOf "list" (.str x) = false := nr rfl
@[simp] theorem is_list_list : isOf "list" (.list xs) = true := nr rfl
@[simp] theorem is_list_tuple : isOf "list" (.tuple xs) = false := nr rfl
@[simp] theorem is_list_dict : isOf "list" (.dict kvs) = false := nr rfl
@[simp] theorem is_tuple_none : isOf "tuple" .none = false := nr rfl
@[simp] theorem is_tuple_bool : isOf "tuple" (.bool b) = false := nr rfl
@[simp] theorem is_tuple_int : isOf "tuple" (.int i) = false := nr rfl
@[simp] theorem is_tuple_str : isOf "tuple" (.str x) = false := nr rfl
@[simp] theorem is_tuple_list : isOf "tuple" (.list xs) = false := nr rfl
@[simp] theorem is_tuple_tuple : isOf "tuple" (.tuple xs) = true := nr rfl
@[simp] theorem is_tuple_dict : isOf "tuple" (.dict kvs) = false := nr rfl
end
def okD : List (PyData × PyData) → Bool
  | [] => true
  | [(.int k, .int v)] => decide (k = 0 ∧ v = 1)
  | [(.str x, .tuple [.int a, .int b])] => decide (x = "a" ∧ a = 0 ∧ b = 1)
  | _ => false
theorem okD_is {kvs : List (PyData × PyData)} (h : okD kvs = true) : kvs = [] ∨ kvs = [(.int 0, .int 1)] ∨ kvs = [(.str "a", .tuple [.int 0, .int 1])] := by
  unfold okD at h
  split at h
  · exact .inl rfl
  · rw [decide_eq_true_eq] at h
    obtain ⟨rfl, rfl⟩ := h
    exact .inr (.inl rfl)
  · rw [decide_eq_true_eq] at h
    obtain ⟨rfl, rfl, rfl⟩ := h
    exact .inr (.inr rfl)
  · cases h
mutual
def thg (e : Nat) : PyData → Bool
  | .int i => decide (i.natAbs < 2 ^ e)
  | .str x => x.cps.toList.all fun c => decide (c < 16 ^ 8)
  | .list xs => thgAll e xs
  | .tuple xs => thgAll e xs
  | .dict kvs => okD kvs
  | _ => true
def thgAll (e : Nat) : List PyData → Bool
  | [] => true
  | x :: xs => thg e x && thgAll e xs
end
theorem thgAll_iff {e : Nat} : ∀ {xs : List PyData}, thgAll e xs = true ↔ ∀ x ∈ xs, thg e x = true
  | [] => by simp [thgAll]
  | x :: xs => by
    rw [thgAll, Bool.and_eq_true, thgAll_iff (xs := xs)]
    simp
mutual
/-- how long it is: bits of its numbers, signs of its texts, one for each place -/
def siz : PyData → Nat
  | .int i => i.natAbs.log2 + 1
  | .str x => x.cps.size
  | .list xs => sizAll xs
  | .tuple xs => sizAll xs
  | .dict kvs => PyData.bulkKv kvs
  | _ => 0
def sizAll : List PyData → Nat
  | [] => 0
  | x :: xs => siz x + 1 + sizAll xs
end
theorem sizAll_app : ∀ xs ys : List PyData, sizAll (xs ++ ys) = sizAll xs + sizAll ys
  | [], ys => by simp [sizAll]
  | x :: xs, ys => by
    rw [List.cons_append, sizAll, sizAll, sizAll_app xs ys]
    omega
theorem depthAll_app : ∀ xs ys : List PyData, PyData.depthAll (xs ++ ys) = max (PyData.depthAll xs) (PyData.depthAll ys)
  | [], ys => by simp [PyData.depthAll]
  | x :: xs, ys => by
    rw [List.cons_append, PyData.depthAll, PyData.depthAll, depthAll_app xs ys]
    omega
theorem sizAll_len : ∀ xs : List PyData, xs.length ≤ sizAll xs
  | [] => Nat.le_refl _
  | x :: xs => by
    rw [List.length_cons, sizAll]
    have := sizAll_len xs
    omega
theorem siz_mem : ∀ {xs : List PyData} {x : PyData}, x ∈ xs → siz x + 1 ≤ sizAll xs
  | y :: ys, x, h => by
    rw [sizAll]
    rcases List.mem_cons.mp h with rfl | h
    · omega
    · have := siz_mem h
      omega
theorem depth_mem : ∀ {xs : List PyData} {x : PyData}, x ∈ xs → PyData.depth x ≤ PyData.depthAll xs
  | y :: ys, x, h => by
    rw [PyData.depthAll]
    rcases List.mem_cons.mp h with rfl | h
    · omega
    · have := depth_mem h
      omega
structure Th (e b k : Nat) (d : PyData) : Prop where
  t : thg e d = true
  k : d.depth ≤ k
  b : siz d ≤ b
structure ThL (e b k : Nat) (xs : List PyData) : Prop where
  t : thgAll e xs = true
  k : PyData.depthAll xs ≤ k
  b : sizAll xs ≤ b
mutual
theorem thg_up {e c : Nat} (h : e ≤ c) : ∀ d : PyData, thg e d = true → thg c d = true
  | .int i, q => by
    simp only [thg, decide_eq_true_eq] at q ⊢
    exact Nat.lt_of_lt_of_le q (Nat.pow_le_pow_right (by decide) h)
  | .list xs, q => by
    simp only [thg] at q ⊢
    exact thgAll_up h xs q
  | .tuple xs, q => by
    simp only [thg] at q ⊢
    exact thgAll_up h xs q
  | .str x, q => by simpa only [thg] using q
  | .none, _ => rfl
  | .bool _, _ => rfl
  | .dict kvs, q => by simpa only [thg] using q
theorem thgAll_up {e c : Nat} (h : e ≤ c) : ∀ xs : List PyData, thgAll e xs = true → thgAll c xs = true
  | [], _ => rfl
  | x :: xs, q => by
    simp only [thgAll, Bool.and_eq_true] at q ⊢
    exact ⟨thg_up h x q.1, thgAll_up h xs q.2⟩
end
section
variable {e b k c l g : Nat} {d : PyData} {xs ys : List PyData}
theorem Th.up (h : Th e b k d) (h1 : e ≤ g) (h2 : b ≤ c) (h3 : k ≤ l) : Th g c l d := ⟨thg_up h1 d h.t, Nat.le_trans h.k h3, Nat.le_trans h.b h2⟩
theorem ThL.up (h : ThL e b k xs) (h1 : e ≤ g) (h2 : b ≤ c) (h3 : k ≤ l) : ThL g c l xs := ⟨thgAll_up h1 xs h.t, Nat.le_trans h.k h3, Nat.le_trans h.b h2⟩
theorem ThL.app (h : ThL e b k xs) (q : ThL e c k ys) : ThL e (b + c) k (xs ++ ys) := ⟨thgAll_iff.mpr fun x hx => by
    rcases List.mem_append.mp hx with hx | hx
    · exact thgAll_iff.mp h.t x hx
    · exact thgAll_iff.mp q.t x hx, by
    rw [depthAll_app]
    have := h.k
    have := q.k
    omega, by
    rw [sizAll_app]
    have := h.b
    have := q.b
    omega⟩
theorem ThL.of_app (h : ThL e b k (xs ++ ys)) : ∃ b1 b2, b1 + b2 = b ∧ ThL e b1 k xs ∧ ThL e b2 k ys := by
  have hb := h.b
  have hk := h.k
  rw [sizAll_app] at hb
  rw [depthAll_app] at hk
  have ht := thgAll_iff.mp h.t
  exact ⟨b - sizAll ys, sizAll ys, by omega, ⟨thgAll_iff.mpr fun x hx => ht x (List.mem_append_left _ hx), by omega, by omega⟩, ⟨thgAll_iff.mpr fun x hx => ht x (List.mem_append_right _ hx), by omega, Nat.le_refl _⟩⟩
theorem ThL.take (h : ThL e b k xs) (n : Nat) : ThL e b k (xs.take n) := by
  have q := h
  rw [← List.take_append_drop n xs] at q
  obtain ⟨b1, b2, e1, q1, q2⟩ := q.of_app
  exact q1.up (Nat.le_refl _) (by omega) (Nat.le_refl _)
theorem ThL.drop (h : ThL e b k xs) (n : Nat) : ThL e b k (xs.drop n) := by
  have q := h
  rw [← List.take_append_drop n xs] at q
  obtain ⟨b1, b2, e1, q1, q2⟩ := q.of_app
  exact q2.up (Nat.le_refl _) (by omega) (Nat.le_refl _)
theorem ThL.len (h : ThL e b k xs) : xs.length ≤ b := Nat.le_trans (sizAll_len xs) h.b
theorem thL_nil : ThL e 0 0 [] := ⟨rfl, Nat.le_refl 0, Nat.le_refl 0⟩
theorem thL_cons (h : Th e b k d) (q : ThL e c k xs) : ThL e (b + 1 + c) k (d :: xs) := ⟨by simp only [thgAll, h.t, q.t, Bool.and_self], by
    rw [PyData.depthAll]
    have := h.k
    have := q.k
    omega, by
    rw [sizAll]
    have := h.b
    have := q.b
    omega⟩
theorem thL_one (h : Th e b k d) : ThL e (b + 1) k [d] := thL_cons h (thL_nil.up (Nat.le_refl _) (Nat.le_refl _) (Nat.zero_le _))
theorem ThL.mem (h : ThL e b k xs) (hx : d ∈ xs) : Th e b k d := ⟨thgAll_iff.mp h.t d hx, Nat.le_trans (depth_mem hx) h.k, by
  have := siz_mem hx
  have := h.b
  omega⟩
theorem th_tuple (h : ThL e b k xs) : Th e b (k + 1) (.tuple xs) := ⟨by simpa only [thg] using h.t, by simpa only [PyData.depth] using Nat.succ_le_succ h.k, by simpa only [siz] using h.b⟩
theorem Th.tup (h : Th e b k (.tuple xs)) : ∃ j, j + 1 = k ∧ ThL e b j xs := by
  have hk := h.k
  simp only [PyData.depth] at hk
  exact ⟨k - 1, by omega, by simpa only [thg] using h.t, by omega, by simpa only [siz] using h.b⟩
theorem Th.lst (h : Th e b k (.list xs)) : ∃ j, j + 1 = k ∧ ThL e b j xs := by
  have hk := h.k
  simp only [PyData.depth] at hk
  exact ⟨k - 1, by omega, by simpa only [thg] using h.t, by omega, by simpa only [siz] using h.b⟩
theorem siz_int {i : Int} {n : Nat} (h : i.natAbs < 2 ^ n) : siz (.int i) ≤ n + 1 := by
  simp only [siz]
  by_cases z : i.natAbs = 0
  · rw [z, show Nat.log2 0 = 0 from rfl]
    omega
  · have := (Nat.log2_lt z).mpr h
    omega
theorem int_siz {i : Int} {b : Nat} (h : siz (.int i) ≤ b) : i.natAbs < 2 ^ b := by
  simp only [siz] at h
  exact Nat.lt_of_lt_of_le Nat.lt_log2_self (Nat.pow_le_pow_right (by decide) h)
theorem th_int {i : Int} (h : i.natAbs < 2 ^ e) : Th e (e + 1) 0 (.int i) := ⟨by simpa only [thg, decide_eq_true_eq] using h, Nat.le_refl 0, siz_int h⟩
theorem Th.oky (h : Th e b k d) : okTy d = true := by
  cases d with
  | dict kvs =>
    have q : okD kvs = true := by simpa only [thg] using h.t
    rcases okD_is q with rfl | rfl | rfl <;> rfl
  | _ => rfl
end
mutual
theorem thg_bare {e : Nat} : ∀ d : PyData, thg e d = true → bare d = true
  | .list xs, q => by
    simp only [thg] at q
    simp only [bare]
    exact thgAll_bare xs q
  | .tuple xs, q => by
    simp only [thg] at q
    simp only [bare]
    exact thgAll_bare xs q
  | .int _, _ => rfl
  | .str _, _ => rfl
  | .none, _ => rfl
  | .bool _, _ => rfl
  | .dict kvs, q => by
    have q : okD kvs = true := by simpa only [thg] using q
    rcases okD_is q with rfl | rfl | rfl <;> rfl
theorem thgAll_bare {e : Nat} : ∀ xs : List PyData, thgAll e xs = true → bareAll xs = true
  | [], _ => rfl
  | x :: xs, q => by
    simp only [thgAll, Bool.and_eq_true] at q
    simp only [bareAll, Bool.and_eq_true]
    exact ⟨thg_bare x q.1, thgAll_bare xs q.2⟩
end
mutual
theorem thg_showable {e : Nat} (he : e ≤ 1850) : ∀ d : PyData, thg e d = true → d.showable = true ∧ d.leavesShort 600 = true
  | .list xs, q => by
    simp only [thg] at q
    simp only [PyData.showable, PyData.leavesShort]
    exact thgAll_showable he xs q
  | .tuple xs, q => by
    simp only [thg] at q
    simp only [PyData.showable, PyData.leavesShort]
    exact thgAll_showable he xs q
  | .int i, q => by
    simp only [thg, decide_eq_true_eq] at q
    have q2 : i.natAbs < 2 ^ 1850 := Nat.lt_of_lt_of_le q (Nat.pow_le_pow_right (by decide) he)
    have q3 : i.natAbs < 10 ^ 560 := Nat.lt_of_lt_of_le q2 (by decide)
    have z := nice_int q3
    refine ⟨z.sh, ?_⟩
    have := z.short
    simpa only [PyData.intsShort, PyData.leavesShort] using this
  | .str x, q => by
    simp only [thg] at q
    simp only [PyData.showable, PyData.leavesShort]
    exact ⟨trivial, q⟩
  | .none, _ => ⟨rfl, rfl⟩
  | .bool _, _ => ⟨rfl, rfl⟩
  | .dict kvs, q => by
    have q : okD kvs = true := by simpa only [thg] using q
    rcases okD_is q with rfl | rfl | rfl <;> exact ⟨by decide +kernel, by decide +kernel⟩
theorem thgAll_showable {e : Nat} (he : e ≤ 1850) : ∀ xs : List PyData, thgAll e xs = true → PyData.showableAll xs = true ∧ PyData.leavesShortAll 600 xs = true
  | [], _ => ⟨rfl, rfl⟩
  | x :: xs, q => by
    simp only [thgAll, Bool.and_eq_true] at q
    have a := thg_showable he x q.1
    have b := thgAll_showable he xs q.2
    simp only [PyData.showableAll, PyData.leavesShortAll, a.1, a.2, b.1, b.2, Bool.and_self]
    exact ⟨trivial, trivial⟩
end
open StrLaws in
theorem shown_int {i : Int} : (PyData.shown (.int i)).length ≤ siz (.int i) + 1 := by
  have h : i.natAbs < 10 ^ (siz (.int i)) := by
    have := int_siz (i := i) (Nat.le_refl _)
    exact Nat.lt_of_lt_of_le this (Nat.pow_le_pow_left (by decide) _)
  have e := int_text_length_le10 (k := siz (.int i)) (by simp only [siz]; omega) h
  show (Str.ofString (toString i)).length ≤ _
  rw [ofString_length]
  omega
open StrLaws in
mutual
theorem shown_siz {e : Nat} : ∀ d : PyData, thg e d = true → d.shown.length ≤ 12 * siz d + 10
  | .none, _ => by
    have e : (PyData.shown .none).length = 4 := rfl
    omega
  | .bool b, _ => by
    have e : (PyData.shown (.bool b)).length ≤ 5 := by cases b <;> decide
    omega
  | .int i, _ => by
    have := shown_int (i := i)
    omega
  | .str x, h => by
    have hx : ∀ c ∈ x.cps.toList, c < 16 ^ 8 := by simpa only [thg, List.all_eq_true, decide_eq_true_eq] using h
    have e := reprText_len x hx
    have e2 : x.length = x.cps.size := rfl
    simp only [PyData.shown, siz]
    omega
  | .list xs, h => by
    have h1 := shownAll_siz xs (by simpa only [thg] using h)
    have h2 := listText_len_le (PyData.shownAll xs)
    have h3 := PyData.shownAll_length xs
    simp only [PyData.shown, siz]
    omega
  | .tuple xs, h => by
    have h1 := shownAll_siz xs (by simpa only [thg] using h)
    have h2 := tupleText_len_le (PyData.shownAll xs)
    have h3 := PyData.shownAll_length xs
    simp only [PyData.shown, siz]
    omega
  | .dict kvs, h => by
    have q : okD kvs = true := by simpa only [thg] using h
    rcases okD_is q with rfl | rfl | rfl
    · have e : (PyData.shown (.dict [])).length = 2 := by decide +kernel
      omega
    · have e : (PyData.shown (.dict [(.int 0, .int 1)])).length = 6 := by decide +kernel
      omega
    · have e : (PyData.shown (.dict [(.str "a", .tuple [.int 0, .int 1])])).length = 13 := by decide +kernel
      have e2 : siz (.dict [(.str "a", .tuple [.int 0, .int 1])]) = 5 := by decide +kernel
      omega
theorem shownAll_siz {e : Nat} : ∀ xs : List PyData, thgAll e xs = true → ((PyData.shownAll xs).map (·.length)).sum + 2 * xs.length ≤ 12 * sizAll xs
  | [], _ => by simp only [PyData.shownAll, sizAll, List.map_nil, List.sum_nil, List.length_nil]; omega
  | x :: xs, h => by
    have h' : thg e x = true ∧ thgAll e xs = true := by simpa only [thgAll, Bool.and_eq_true] using h
    have h1 := shown_siz x h'.1
    have h2 := shownAll_siz xs h'.2
    simp only [PyData.shownAll, sizAll, List.map_cons, List.sum_cons, List.length_cons]
    omega
end
theorem Th.shows {e b k : Nat} {d : PyData} (h : Th e b k d) (he : e ≤ 1850) (hb : b ≤ 800000) (hk : k ≤ 60) : showsX d = true := by
  have a := thg_showable he d h.t
  have hl := shown_siz d h.t
  have h3 : d.shown.length ≤ 10000000 := by
    have h4 := h.b
    omega
  unfold showsX
  rw [thg_bare d h.t, a.1, decide_eq_true (Nat.le_trans h.k hk), decide_eq_true h3]
  rfl
end Fp
namespace Fp
open PySem PySem.Spec L2 Dn
section
variable {e b k : Nat} {d : PyData} {xs : List PyData}
end
end Fp
namespace Fp
open PySem PySem.Spec L2 Dn
/-- a rational number as a ratio in lowest terms -/
def enc (x : Rat) : PyData := .tuple [.int x.num, .int (x.den : Nat)]
theorem low_eq {p : Int} {q : Nat} (hq : 0 < q) : low p q = enc (mkRat p q) := by
  have h : mkRat p q = Rat.normalize p q (by omega) := by
    unfold mkRat
    rw [dif_neg (by omega)]
  rw [h, Rat.normalize_eq]
  rfl
theorem cast_ne {D : Nat} (hD : 0 < D) : (D : Rat) ≠ 0 := by
  intro z
  have := Rat.natCast_eq_zero_iff.mp z
  omega
theorem num_div (x : Rat) : x = x.num / (x.den : Rat) := by
  rw [← Rat.mkRat_eq_div, Rat.mkRat_self]
theorem mul_den (x : Rat) : x * (x.den : Rat) = (x.num : Rat) := by
  have h := num_div x
  have d := cast_ne x.den_pos
  grind
/-- a whole number comes of it by D -/
def Wh (D : Nat) (x : Rat) : Prop := ∃ i : Int, x * (D : Rat) = (i : Rat)
theorem Wh.dvd {D : Nat} {x : Rat} (hD : 0 < D) (h : Wh D x) : x.den ∣ D := by
  obtain ⟨i, h⟩ := h
  have e : x = mkRat i D := by
    rw [Rat.mkRat_eq_div, ← h]
    have d := cast_ne hD
    grind
  rw [e, Rat.den_mkRat, if_neg (by omega)]
  exact Nat.div_dvd_of_dvd (Nat.gcd_dvd_left _ _)
theorem Wh.up {D E : Nat} {x : Rat} (h : Wh D x) (hd : D ∣ E) : Wh E x := by
  obtain ⟨k, rfl⟩ := hd
  obtain ⟨i, h⟩ := h
  refine ⟨i * k, ?_⟩
  rw [Rat.natCast_mul, Rat.intCast_mul, Rat.intCast_natCast, ← h]
  grind
theorem Wh.add {D : Nat} {x y : Rat} (h : Wh D x) (k : Wh D y) : Wh D (x + y) := by
  obtain ⟨i, h⟩ := h
  obtain ⟨j, k⟩ := k
  refine ⟨i + j, ?_⟩
  rw [Rat.intCast_add, ← h, ← k]
  grind
theorem Wh.neg {D : Nat} {x : Rat} (h : Wh D x) : Wh D (-x) := by
  obtain ⟨i, h⟩ := h
  refine ⟨-i, ?_⟩
  rw [Rat.intCast_neg, ← h]
  grind
theorem Wh.sub {D : Nat} {x y : Rat} (h : Wh D x) (k : Wh D y) : Wh D (x - y) := by
  rw [Rat.sub_eq_add_neg]
  exact h.add k.neg
theorem Wh.mul {D E : Nat} {x y : Rat} (h : Wh D x) (k : Wh E y) : Wh (D * E) (x * y) := by
  obtain ⟨i, h⟩ := h
  obtain ⟨j, k⟩ := k
  refine ⟨i * j, ?_⟩
  rw [Rat.intCast_mul, ← h, ← k, Rat.natCast_mul]
  grind
theorem wh_int {D : Nat} (i : Int) : Wh D (i : Rat) := ⟨i * D, by rw [Rat.intCast_mul, Rat.intCast_natCast]⟩
theorem wh_0 {D : Nat} : Wh D 0 := wh_int 0
theorem wh_1 {D : Nat} : Wh D 1 := wh_int 1
/-- at most B either way -/
def Ab (B x : Rat) : Prop := -B ≤ x ∧ x ≤ B
theorem Ab.up {B C x : Rat} (h : Ab B x) (hC : B ≤ C) : Ab C x := ⟨by have := h.1; grind, by have := h.2; grind⟩
theorem Ab.add {B C x y : Rat} (h : Ab B x) (k : Ab C y) : Ab (B + C) (x + y) := ⟨by have := h.1; have := k.1; grind, by have := h.2; have := k.2; grind⟩
theorem Ab.sub {B C x y : Rat} (h : Ab B x) (k : Ab C y) : Ab (B + C) (x - y) := ⟨by have := h.1; have := k.2; grind, by have := h.2; have := k.1; grind⟩
theorem Ab.mul {B C x y : Rat} (h : Ab B x) (k : Ab C y) : Ab (B * C) (x * y) := by
  obtain ⟨h1, h2⟩ := h
  obtain ⟨k1, k2⟩ := k
  have a := Rat.mul_nonneg (show 0 ≤ B - x by grind) (show 0 ≤ C + y by grind)
  have b := Rat.mul_nonneg (show 0 ≤ B + x by grind) (show 0 ≤ C - y by grind)
  have c := Rat.mul_nonneg (show 0 ≤ B - x by grind) (show 0 ≤ C - y by grind)
  have d := Rat.mul_nonneg (show 0 ≤ B + x by grind) (show 0 ≤ C + y by grind)
  exact ⟨by grind, by grind⟩
theorem ab_01 {x : Rat} (h : 0 ≤ x) (h1 : x ≤ 1) : Ab 1 x := ⟨by grind, h1⟩
theorem ab_0 {B : Rat} (h : 0 ≤ B) : Ab B 0 := ⟨by grind, h⟩
/-- short enough for the operations -/
structure Sz (n : Nat) (x : Rat) : Prop where
  num : x.num.natAbs < 2 ^ n
  den : x.den < 2 ^ n
theorem Sz.up {m n : Nat} {x : Rat} (h : Sz m x) (hn : m ≤ n) : Sz n x := ⟨Nat.lt_of_lt_of_le h.num (Nat.pow_le_pow_right (by decide) hn), Nat.lt_of_lt_of_le h.den (Nat.pow_le_pow_right (by decide) hn)⟩
theorem num_le {B : Nat} {x : Rat} (h : Ab (B : Rat) x) : x.num.natAbs ≤ B * x.den := by
  obtain ⟨h1, h2⟩ := h
  have e := mul_den x
  have d : (0 : Rat) ≤ (x.den : Rat) := Rat.natCast_nonneg
  have a := Rat.mul_nonneg (show 0 ≤ (B : Rat) - x by grind) d
  have b := Rat.mul_nonneg (show 0 ≤ (B : Rat) + x by grind) d
  have a2 : ((x.num : Int) : Rat) ≤ ((B * x.den : Int) : Rat) := by
    rw [Rat.intCast_mul, Rat.intCast_natCast, Rat.intCast_natCast, ← e]
    grind
  have b2 : ((-(B * x.den) : Int) : Rat) ≤ ((x.num : Int) : Rat) := by
    rw [Rat.intCast_neg, Rat.intCast_mul, Rat.intCast_natCast, Rat.intCast_natCast, ← e]
    grind
  have a3 := Rat.intCast_le_intCast.mp a2
  have b3 := Rat.intCast_le_intCast.mp b2
  rw [← Int.natCast_mul] at a3 b3
  omega
theorem sz_of {D B n : Nat} {x : Rat} (hD : 0 < D) (hw : Wh D x) (ha : Ab (B : Rat) x) (h1 : B * D < 2 ^ n) (h2 : D < 2 ^ n) : Sz n x := by
  have hd := Nat.le_of_dvd hD (hw.dvd hD)
  exact ⟨Nat.lt_of_le_of_lt (num_le ha) (Nat.lt_of_le_of_lt (Nat.mul_le_mul_left B hd) h1), Nat.lt_of_le_of_lt hd h2⟩
section
variable {x y : Rat} {f : Feed}
theorem mulC_sz {a b : Int} {n : Nat} (h : a.natAbs < 2 ^ n) (h2 : b.natAbs < 2 ^ n) (hn : n ≤ 4000) : mulC a b = true := by
  have h3 : (2 : Nat) ^ n ≤ 2 ^ 4000 := Nat.pow_le_pow_right (by decide) hn
  exact mulC_small (k := 4000) (l := 4000) (Nat.lt_of_lt_of_le h h3) (Nat.lt_of_lt_of_le h2 h3) (by decide)
theorem ratio_big {p : Int} {q : Nat} {f : Feed} (hq : 0 < q) (h1 : p.natAbs < 2 ^ 8500) (h2 : q < 2 ^ 8500) : F_ratio [.dat (.int p), .dat (.int q)] f = .ok (.dat (enc (mkRat p q))) f := by
  have hg : 0 < Nat.gcd p.natAbs q := Nat.gcd_pos_of_pos_right _ hq
  have hl : Nat.gcd p.natAbs q ≤ q := Nat.gcd_le_right _ hq
  have d1 : ∀ c : Int, oDiv (.int c) (.int (Nat.gcd p.natAbs q : Nat)) = some (.dat (.int (c / (Nat.gcd p.natAbs q : Nat)))) := fun c => oDiv_int (by omega) (Nat.lt_trans (log2_small (k := 8500) (by rw [Int.natAbs_natCast]; omega) (by decide)) (by decide))
  have m1 : ∀ c : Int, c.natAbs < 2 ^ 8500 → oMul (.int 1) (.int c) = some (.dat (.int (1 * c))) := fun c hc => oMul_int (mulC_small (k := 1) (l := 8500) (by decide) hc (by decide))
  have m2 := m1 p h1
  have m3 := m1 q (by rw [Int.natAbs_natCast]; exact h2)
  have z1 : ¬ (q : Int) < 0 := by omega
  have z2 : ¬ (q : Int) = 0 := by omega
  have z3 : ¬ q = 0 := by omega
  rw [← low_eq hq]
  apply ev_is
  rw [u_ratio, ev_dEnd]
  unfold S_ratio
  simp [common_ok, z1, z2, z3, m2, m3, d1, ev_ite]
  simp [low]
theorem prod_lt {a b : Nat} {n : Nat} (h : a < 2 ^ n) (h2 : b < 2 ^ n) (hn : n ≤ 4000) : a * b < 2 ^ 8000 := by
  have h3 : (2 : Nat) ^ n ≤ 2 ^ 4000 := Nat.pow_le_pow_right (by decide) hn
  have := Nat.mul_lt_mul_of_lt_of_lt (Nat.lt_of_lt_of_le h h3) (Nat.lt_of_lt_of_le h2 h3)
  exact Nat.lt_of_lt_of_le this (by decide)
theorem add_eq (x y : Rat) : mkRat (x.num * y.den + y.num * x.den) (x.den * y.den) = x + y := by
  rw [Rat.mkRat_eq_div, Rat.natCast_mul, Rat.intCast_add, Rat.intCast_mul, Rat.intCast_mul, Rat.intCast_natCast, Rat.intCast_natCast, ← mul_den x, ← mul_den y]
  have a := cast_ne x.den_pos
  have b := cast_ne y.den_pos
  grind
theorem sub_eq (x y : Rat) : mkRat (x.num * y.den - y.num * x.den) (x.den * y.den) = x - y := by
  rw [Rat.mkRat_eq_div, Rat.natCast_mul, Rat.intCast_sub, Rat.intCast_mul, Rat.intCast_mul, Rat.intCast_natCast, Rat.intCast_natCast, ← mul_den x, ← mul_den y]
  have a := cast_ne x.den_pos
  have b := cast_ne y.den_pos
  grind
theorem mul_eq (x y : Rat) : mkRat (x.num * y.num) (x.den * y.den) = x * y := by
  rw [Rat.mkRat_eq_div, Rat.natCast_mul, Rat.intCast_mul, ← mul_den x, ← mul_den y]
  have a := cast_ne x.den_pos
  have b := cast_ne y.den_pos
  grind
theorem plus_q {n : Nat} (hx : Sz n x) (hy : Sz n y) (hn : n ≤ 4000) : F_plus [.dat (enc x), .dat (enc y)] f = .ok (.dat (enc (x + y))) f := by
  have m1 : oMul (.int x.num) (.int (y.den : Nat)) = some (.dat (.int (x.num * y.den))) := oMul_int (mulC_sz hx.num (by rw [Int.natAbs_natCast]; exact hy.den) hn)
  have m2 : oMul (.int y.num) (.int (x.den : Nat)) = some (.dat (.int (y.num * x.den))) := oMul_int (mulC_sz hy.num (by rw [Int.natAbs_natCast]; exact hx.den) hn)
  have m3 : oMul (.int (x.den : Nat)) (.int (y.den : Nat)) = some (.dat (.int (x.den * y.den))) := oMul_int (mulC_sz (by rw [Int.natAbs_natCast]; exact hx.den) (by rw [Int.natAbs_natCast]; exact hy.den) hn)
  have b1 := prod_lt hx.num hy.den hn
  have b2 := prod_lt hy.num hx.den hn
  have b3 := prod_lt hx.den hy.den hn
  have k : (2 : Nat) ^ 8000 + 2 ^ 8000 ≤ 2 ^ 8500 := by decide
  have b4 : (x.num * y.den + y.num * x.den).natAbs < 2 ^ 8500 := by
    have a1 : (x.num * y.den).natAbs = x.num.natAbs * y.den := by rw [Int.natAbs_mul, Int.natAbs_natCast]
    have a2 : (y.num * x.den).natAbs = y.num.natAbs * x.den := by rw [Int.natAbs_mul, Int.natAbs_natCast]
    have a3 := Int.natAbs_add_le (x.num * y.den) (y.num * x.den)
    omega
  have r1 := ratio_big (f := f) (Nat.mul_pos x.den_pos y.den_pos) b4 (by omega)
  rw [Int.natCast_mul, add_eq] at r1
  apply ev_is
  rw [u_plus, ev_dEnd]
  unfold S_plus enc
  simp [m1, m2, m3]
  exact ⟨_, f, r1, by simp [enc]⟩
theorem times_q {n : Nat} (hx : Sz n x) (hy : Sz n y) (hn : n ≤ 4000) : F_times [.dat (enc x), .dat (enc y)] f = .ok (.dat (enc (x * y))) f := by
  have m1 : oMul (.int x.num) (.int y.num) = some (.dat (.int (x.num * y.num))) := oMul_int (mulC_sz hx.num hy.num hn)
  have m3 : oMul (.int (x.den : Nat)) (.int (y.den : Nat)) = some (.dat (.int (x.den * y.den))) := oMul_int (mulC_sz (by rw [Int.natAbs_natCast]; exact hx.den) (by rw [Int.natAbs_natCast]; exact hy.den) hn)
  have b1 := prod_lt hx.num hy.num hn
  have b3 := prod_lt hx.den hy.den hn
  have k : (2 : Nat) ^ 8000 ≤ 2 ^ 8500 := by decide
  have b4 : (x.num * y.num).natAbs < 2 ^ 8500 := by
    rw [Int.natAbs_mul]
    omega
  have r1 := ratio_big (f := f) (Nat.mul_pos x.den_pos y.den_pos) b4 (by omega)
  rw [Int.natCast_mul, mul_eq] at r1
  apply ev_is
  rw [u_times, ev_dEnd]
  unfold S_times enc
  simp [m1, m3]
  exact ⟨_, f, r1, by simp [enc]⟩
end
end Fp
namespace Fp
open PySem PySem.Spec L2 Dn
theorem shaped_enc {x : Rat} : SeqAt.shaped (enc x) = true := shaped_rat (p := x.num) (q := x.den)
theorem eqv_enc {x y : Rat} : PyData.eqv (enc x) (enc y) = decide (x = y) := by
  refine (eqv_rat (p := x.num) (q := x.den) (r := y.num) (s := y.den)).trans ?_
  by_cases h : x = y
  · subst h
    simp
  · rw [decide_eq_false h]
    by_cases a : x.num = y.num
    · by_cases b : x.den = y.den
      · exact absurd (Rat.ext a b) h
      · simp [b]
    · simp [a]
theorem eq_enc {x y : Rat} : oEq (enc x) (enc y) = some (.dat (.bool (decide (x = y)))) := by
  rw [oEq_of shaped_enc shaped_enc, eqv_enc]
theorem ne_enc {x y : Rat} : oNe (enc x) (enc y) = some (.dat (.bool (!decide (x = y)))) := by
  rw [oNe_of shaped_enc shaped_enc, eqv_enc]
theorem eq_enc0 {x : Rat} : oEq (enc x) (.tuple [.int 0, .int 1]) = some (.dat (.bool (decide (x = 0)))) := eq_enc (y := 0)
theorem ne_enc0 {x : Rat} : oNe (enc x) (.tuple [.int 0, .int 1]) = some (.dat (.bool (!decide (x = 0)))) := ne_enc (y := 0)
theorem nice_enc {x : Rat} {n : Nat} (h : Sz n x) (hn : n ≤ 1850) : Nice 2 1 (enc x) := by
  have k : (2 : Nat) ^ n ≤ 2 ^ 1850 := Nat.pow_le_pow_right (by decide) hn
  have k2 : (2 : Nat) ^ 1850 < 10 ^ 560 := by decide
  have := h.num
  have := h.den
  exact nice_rat (p := x.num) (q := x.den) (by omega) (by omega)
section
variable {x y : Rat} {f : Feed}
theorem q_low_q {p : Int} {q : Nat} (hq : 0 < q) (h2 : q < 2 ^ 8500) : F_q_low [.dat (.int p), .dat (.int q)] f = .ok (.dat (enc (mkRat p q))) f := by
  have hg : 0 < Nat.gcd p.natAbs q := Nat.gcd_pos_of_pos_right _ hq
  have hl : Nat.gcd p.natAbs q ≤ q := Nat.gcd_le_right _ hq
  have d1 : ∀ c : Int, oDiv (.int c) (.int (Nat.gcd p.natAbs q : Nat)) = some (.dat (.int (c / (Nat.gcd p.natAbs q : Nat)))) := fun c => oDiv_int (by omega) (Nat.lt_trans (log2_small (k := 8500) (by rw [Int.natAbs_natCast]; omega) (by decide)) (by decide))
  rw [← low_eq hq]
  apply ev_is
  rw [u_q_low, ev_dEnd]
  unfold S_q_low
  simp
  refine ev_while (I := fun n ρ g => g = f ∧ ∃ x y : Nat, n = y ∧ ρ = [.dat (.int p), .dat (.int q), .dat (.int x), .dat (.int y)] ∧ Nat.gcd x y = Nat.gcd p.natAbs q) (n := q) ?_ ⟨rfl, p.natAbs, q, rfl, rfl, rfl⟩
  rintro n ρ g ⟨rfl, x, y, rfl, rfl, e⟩
  simp
  refine ⟨fun h => ?_, fun h => ?_⟩
  · have hy : (0 : Int) < n := by omega
    simp [oMod_int hy]
    exact ⟨x % n, Nat.mod_lt _ (by omega), n, ⟨rfl, by omega⟩, by rw [← e, Nat.gcd_comm x n, Nat.gcd_rec n x]; exact Nat.gcd_comm _ _⟩
  · subst h
    rw [Nat.gcd_zero_right] at e
    subst e
    simp [d1, low]
theorem ab_sz {D B n : Nat} (hD : 0 < D) (hw : Wh D x) (ha : Ab (B : Rat) x) (hB : 0 < B) (h1 : B * D < 2 ^ n) : Sz n x := sz_of hD hw ha h1 (Nat.lt_of_le_of_lt (Nat.le_mul_of_pos_left D hB) h1)
end
theorem sum_wh {D : Nat} : ∀ {xs : List Rat}, (∀ x ∈ xs, Wh D x) → Wh D xs.sum
  | [], _ => wh_0
  | x :: xs, h => by
    rw [List.sum_cons]
    exact (h x List.mem_cons_self).add (sum_wh fun y hy => h y (List.mem_cons_of_mem _ hy))
end Fp
namespace Fp
open PySem PySem.Spec L2 Dn
structure Life where
  row : List Rat
  step : Rat
def lifeD (L : Life) : PyData := .tuple [.tuple (L.row.map enc), enc L.step]
def lastR (L : Life) : Rat := L.row.getLastD 0
/-- all chances, added -/
def tot (L : Life) : Rat := L.row.sum + lastR L * L.step / (1 - L.step)
/-- the chance at k -/
def ch (L : Life) (k : Nat) : Rat := if k ≤ L.row.length then L.row.getD (k - 1) 0 else if L.step = 0 then 0 else lastR L * L.step ^ (k - L.row.length)
/-- what is needed of a life here: W the rows' bottom, s the step's -/
structure LOk (W s : Nat) (L : Life) : Prop where
  W0 : 0 < W
  s0 : 0 < s
  row : ∀ x ∈ L.row, Wh W x ∧ 0 ≤ x ∧ x ≤ 1
  step : Wh s L.step
  st0 : 0 ≤ L.step
  st1 : L.step < 1
  emp : L.row = [] → L.step = 0
  tot1 : tot L ≤ 1
theorem lastR_mem {L : Life} (h : L.row ≠ []) : lastR L ∈ L.row := by
  unfold lastR
  rw [List.getLastD_eq_getLast?, List.getLast?_eq_some_getLast h]
  exact List.getLast_mem h
theorem wh_pow {D : Nat} {x : Rat} (h : Wh D x) : ∀ n : Nat, Wh (D ^ n) (x ^ n)
  | 0 => by
    rw [Rat.pow_zero, Nat.pow_zero]
    exact wh_1
  | n + 1 => by
    rw [Rat.pow_succ, Nat.pow_succ]
    exact (wh_pow h n).mul h
theorem pow_01 {x : Rat} (h : 0 ≤ x) (h1 : x ≤ 1) : ∀ n : Nat, 0 ≤ x ^ n ∧ x ^ n ≤ 1
  | 0 => by
    rw [Rat.pow_zero]
    exact ⟨by decide, by decide⟩
  | n + 1 => by
    rw [Rat.pow_succ]
    obtain ⟨a, b⟩ := pow_01 h h1 n
    have c := Rat.mul_nonneg a h
    have d := Rat.mul_nonneg (show 0 ≤ 1 - x ^ n by grind) h
    exact ⟨c, by grind⟩
theorem mul_01 {x y : Rat} (h : 0 ≤ x ∧ x ≤ 1) (k : 0 ≤ y ∧ y ≤ 1) : 0 ≤ x * y ∧ x * y ≤ 1 := by
  have c := Rat.mul_nonneg h.1 k.1
  have d := Rat.mul_nonneg (show 0 ≤ 1 - x by grind) k.1
  exact ⟨c, by grind⟩
section
variable {W s : Nat} {L : Life}
theorem LOk.tail (h : LOk W s L) (hr : L.row ≠ []) (n : Nat) : Wh (W * s ^ n) (lastR L * L.step ^ n) ∧ 0 ≤ lastR L * L.step ^ n ∧ lastR L * L.step ^ n ≤ 1 := by
  have a := h.row _ (lastR_mem hr)
  have b := pow_01 h.st0 (by have := h.st1; grind) n
  exact ⟨a.1.mul (wh_pow h.step n), mul_01 a.2 b⟩
theorem LOk.ch (h : LOk W s L) {k m : Nat} (hk : k ≤ m) : Wh (W * s ^ m) (ch L k) ∧ 0 ≤ Fp.ch L k ∧ Fp.ch L k ≤ 1 := by
  have z : Wh (W * s ^ m) 0 ∧ (0 : Rat) ≤ 0 ∧ (0 : Rat) ≤ 1 := ⟨wh_0, by decide, by decide⟩
  unfold Fp.ch
  split
  · rename_i hl
    by_cases q : k - 1 < L.row.length
    · rw [List.getD_eq_getElem?_getD, List.getElem?_eq_getElem q]
      have a := h.row _ (List.getElem_mem q)
      exact ⟨a.1.up (Nat.dvd_mul_right _ _), a.2⟩
    · rw [List.getD_eq_getElem?_getD, List.getElem?_eq_none (by omega)]
      exact z
  · split
    · exact z
    · rename_i h1 h2
      have hr : L.row ≠ [] := fun q => h2 (h.emp q)
      have a := h.tail hr (k - L.row.length)
      exact ⟨a.1.up (Nat.mul_dvd_mul_left W (Nat.pow_dvd_pow s (by omega))), a.2⟩
end
theorem atI_last {x : Rat} {row : List Rat} (h : row ≠ []) : atI (row.map enc) (-1) = some (enc (row.getLastD 0)) := by
  obtain ⟨ys, y, rfl⟩ : ∃ ys y, row = ys ++ [y] := ⟨row.dropLast, row.getLast h, (List.dropLast_concat_getLast h).symm⟩
  rw [List.map_append, List.map_cons, List.map_nil]
  rw [L2.atI_last]
  simp
end Fp
namespace Fp
open PySem PySem.Spec L2 Dn
theorem ev_step {s s2 : Sm} {ρ : Rho} {f : Feed} {P : Ctl → Feed → Prop} (Q : Rho → Feed → Prop) (h : Ev (s ρ f) fun c g => ∃ ρ2, c = .nx ρ2 ∧ Q ρ2 g) (k : ∀ ρ2 g, Q ρ2 g → Ev (s2 ρ2 g) P) : Ev (sSeq s s2 ρ f) P := by
  rw [e_seq, ev_bind]
  refine h.mono ?_
  rintro _ g ⟨ρ2, rfl, q⟩
  rw [e_then_nx]
  exact k ρ2 g q
theorem oMul_nat {a b : Nat} (h : a < 2 ^ 4000) (h2 : b < 2 ^ 4000) : oMul (.int (a : Nat)) (.int (b : Nat)) = some (.dat (.int ((a * b : Nat) : Int))) := by
  rw [Int.natCast_mul]
  exact oMul_int (mulC_sz (n := 4000) (by rw [Int.natAbs_natCast]; exact h) (by rw [Int.natAbs_natCast]; exact h2) (Nat.le_refl _))
theorem wh_mk {W : Nat} {i : Int} (hW : 0 < W) : Wh W (mkRat i W) := by
  refine ⟨i, ?_⟩
  rw [Rat.mkRat_eq_div]
  have := cast_ne hW
  grind
theorem mk_mul {W : Nat} {i : Int} (hW : 0 < W) : mkRat i W * (W : Rat) = (i : Rat) := by
  rw [Rat.mkRat_eq_div]
  have := cast_ne hW
  grind
theorem frac01 {W i : Nat} (hW : 0 < W) (h : i ≤ W) : 0 ≤ mkRat (i : Nat) W ∧ mkRat (i : Nat) W ≤ 1 := by
  have e := mk_mul (i := (i : Nat)) hW
  have w0 : (0 : Rat) < (W : Rat) := Rat.natCast_pos.mpr hW
  rw [Rat.intCast_natCast] at e
  have h2 : (i : Rat) ≤ (W : Rat) := Rat.natCast_le_natCast.mpr h
  have h3 : (0 : Rat) ≤ (i : Rat) := Rat.natCast_nonneg
  exact ⟨Rat.le_of_mul_le_mul_right (c := (W : Rat)) (by grind) w0, Rat.le_of_mul_le_mul_right (c := (W : Rat)) (by grind) w0⟩
theorem frac_lt {W i : Nat} (hW : 0 < W) (h : i < W) : mkRat (i : Nat) W < 1 := by
  have e := mk_mul (i := (i : Nat)) hW
  have w0 : (0 : Rat) < (W : Rat) := Rat.natCast_pos.mpr hW
  rw [Rat.intCast_natCast] at e
  have h2 : (i : Rat) < (W : Rat) := Rat.natCast_lt_natCast.mpr h
  exact Rat.lt_of_mul_lt_mul_right (c := (W : Rat)) (by grind) (by grind)
theorem getLastD_map {α β : Type} (f : α → β) (d : α) (l : List α) : (l.map f).getLastD (f d) = f (l.getLastD d) := by
  rw [List.getLastD_eq_getLast?, List.getLastD_eq_getLast?, List.getLast?_map]
  cases l.getLast? <;> rfl
theorem sum_mk {W B : Nat} (W0 : 0 < W) : ∀ us : List Nat, (us.map fun (w : Nat) => mkRat ((B * w : Nat) : Int) W).sum * (W : Rat) = (B : Rat) * (us.sum : Nat)
  | [] => by
    rw [List.map_nil, List.sum_nil, List.sum_nil]
    have : ((0 : Nat) : Rat) = 0 := rfl
    grind
  | u :: us => by
    have e := mk_mul (i := ((B * u : Nat) : Int)) W0
    have ih := sum_mk (B := B) W0 us
    rw [Rat.intCast_natCast, Rat.natCast_mul] at e
    rw [List.map_cons, List.sum_cons, List.sum_cons, Rat.natCast_add]
    grind
theorem tot_drawn {us : List Nat} {a b x W : Nat} (hab : a < b) (hW : W = (b - a) * (us.sum + x) + a * us.getLastD 0) (W0 : 0 < W) : (1 - tot ⟨us.map fun (w : Nat) => mkRat (((b - a) * w : Nat) : Int) W, mkRat (a : Nat) b⟩) * (W : Rat) = ((b - a : Nat) : Rat) * (x : Rat) := by
  have e1 := sum_mk (B := b - a) W0 us
  have e2 : lastR ⟨us.map fun (w : Nat) => mkRat (((b - a) * w : Nat) : Int) W, mkRat (a : Nat) b⟩ = mkRat (((b - a) * us.getLastD 0 : Nat) : Int) W := by
    have := getLastD_map (fun (w : Nat) => mkRat (((b - a) * w : Nat) : Int) W) 0 us
    unfold lastR
    rw [← this]
    congr 1
    simp
  have e3 := mk_mul (i := (((b - a) * us.getLastD 0 : Nat) : Int)) W0
  have e4 := mk_mul (i := (a : Int)) (W := b) (by omega)
  rw [Rat.intCast_natCast] at e3 e4
  have hB : ((b - a : Nat) : Rat) ≠ 0 := cast_ne (by omega)
  have eB : ((b - a : Nat) : Rat) = (b : Rat) - (a : Rat) := by
    have : ((b - a + a : Nat) : Rat) = (b : Rat) := by rw [Nat.sub_add_cancel (by omega)]
    rw [Rat.natCast_add] at this
    grind
  have eW : (W : Rat) = ((b - a : Nat) : Rat) * ((us.sum : Nat) + (x : Rat)) + (a : Rat) * (us.getLastD 0 : Nat) := by
    conv => lhs; rw [hW]
    rw [Rat.natCast_add, Rat.natCast_mul, Rat.natCast_mul, Rat.natCast_add]
  rw [Rat.natCast_mul] at e3
  unfold tot
  rw [e2]
  show (1 - ((us.map fun (w : Nat) => mkRat (((b - a) * w : Nat) : Int) W).sum + mkRat (((b - a) * us.getLastD 0 : Nat) : Int) W * mkRat (a : Nat) b / (1 - mkRat (a : Nat) b))) * (W : Rat) = _
  generalize (us.map fun (w : Nat) => mkRat (((b - a) * w : Nat) : Int) W).sum = S at *
  generalize mkRat (((b - a) * us.getLastD 0 : Nat) : Int) W = p at *
  generalize mkRat (a : Nat) b = st at *
  generalize ((b - a : Nat) : Rat) = B at *
  generalize (us.getLastD 0 : Nat) = la at *
  have hb : (b : Rat) ≠ 0 := cast_ne (by omega)
  have h1 : (1 - st) * (b : Rat) = B := by grind
  have h2 : (1 - st) ≠ 0 := by
    intro z
    rw [z] at h1
    grind
  have h3 : p * st / (1 - st) * (1 - st) = p * st := by grind
  generalize p * st / (1 - st) = y at *
  have h4 : y * B = p * (a : Rat) := by grind
  have h5 : y * (W : Rat) * B = (la : Rat) * (a : Rat) * B := by grind
  have h6 : y * (W : Rat) = (la : Rat) * (a : Rat) := by grind
  grind
theorem le_one_of {x y : Rat} {W : Nat} (W0 : 0 < W) (h : (1 - x) * (W : Rat) = y) (hy : 0 ≤ y) : x ≤ 1 := by
  have w0 : (0 : Rat) < (W : Rat) := Rat.natCast_pos.mpr W0
  have : 0 ≤ 1 - x := Rat.le_of_mul_le_mul_right (c := (W : Rat)) (by grind) w0
  grind
theorem is_one_of {x : Rat} {W : Nat} (W0 : 0 < W) (h : (1 - x) * (W : Rat) = 0) : x = 1 := by
  have w0 := cast_ne W0
  grind
theorem tot_more {L : Life} (h : L.step < 1) : tot ⟨L.row ++ [lastR L * L.step], L.step⟩ = tot L := by
  have e : lastR ⟨L.row ++ [lastR L * L.step], L.step⟩ = lastR L * L.step := by
    unfold lastR
    simp
  unfold tot
  rw [e]
  show (L.row ++ [lastR L * L.step]).sum + lastR L * L.step * L.step / (1 - L.step) = _
  rw [List.sum_append, List.sum_cons, List.sum_nil]
  have : 1 - L.step ≠ 0 := by grind
  grind
theorem tot_zero {L : Life} {st : Rat} (h : L.step = 0) : tot ⟨L.row ++ [0], st⟩ = tot L := by
  have e : lastR ⟨L.row ++ [0], st⟩ = 0 := by
    unfold lastR
    simp
  unfold tot
  rw [e, h]
  show (L.row ++ [0]).sum + 0 * st / (1 - st) = _
  rw [List.sum_append, List.sum_cons, List.sum_nil]
  grind
theorem LOk.more {W s : Nat} {L : Life} (h : LOk W s L) (hr : L.row ≠ []) : LOk (W * s) s ⟨L.row ++ [lastR L * L.step], L.step⟩ := by
  refine ⟨Nat.mul_pos h.W0 h.s0, h.s0, fun x hx => ?_, h.step, h.st0, h.st1, fun z => by simp at z, by rw [tot_more h.st1]; exact h.tot1⟩
  rcases List.mem_append.mp hx with q | q
  · exact ⟨(h.row x q).1.up (Nat.dvd_mul_right _ _), (h.row x q).2⟩
  · have t := h.tail hr 1
    rw [Rat.pow_one, Nat.pow_one] at t
    rw [List.mem_singleton.mp q]
    exact t
end Fp
namespace Fp
open PySem PySem.Spec L2 Dn
theorem ev_stepR {s s2 : Sm} {ρ : Rho} {f : Feed} {P : Ctl → Feed → Prop} (Q : Rho → Feed → Prop) (h : Ev (s ρ f) fun c g => (∃ ρ2, c = .nx ρ2 ∧ Q ρ2 g) ∨ (∃ rv, c = .rt rv ∧ P (.rt rv) g)) (k : ∀ ρ2 g, Q ρ2 g → Ev (s2 ρ2 g) P) : Ev (sSeq s s2 ρ f) P := by
  rw [e_seq, ev_bind]
  refine Ev.mono h ?_
  rintro c g (⟨ρ2, rfl, q⟩ | ⟨rv, rfl, q⟩)
  · exact k _ _ q
  · exact ev_ok.mpr q
end Fp
namespace Fp
open PySem PySem.Spec L2 Dn
def rs (n : Nat) (g : Nat → Rat) : Rat := ((List.range n).map g).sum
theorem sum_app : ∀ (xs ys : List Rat), (xs ++ ys).sum = xs.sum + ys.sum
  | [], ys => by
    rw [List.nil_append, List.sum_nil]
    grind
  | x :: xs, ys => by
    rw [List.cons_append, List.sum_cons, List.sum_cons, sum_app xs ys]
    grind
theorem rs_zero {g : Nat → Rat} : rs 0 g = 0 := rfl
theorem rs_succ {n : Nat} {g : Nat → Rat} : rs (n + 1) g = rs n g + g n := by
  unfold rs
  rw [List.range_succ, List.map_append, sum_app, List.map_cons, List.map_nil, List.sum_cons, List.sum_nil]
  grind
theorem rs_wh {D n : Nat} {g : Nat → Rat} (h : ∀ i, i < n → Wh D (g i)) : Wh D (rs n g) := by
  induction n with
  | zero => exact wh_0
  | succ n ih =>
    rw [rs_succ]
    exact (ih fun i hi => h i (by omega)).add (h n (by omega))
theorem rs_ab {n B : Nat} {g : Nat → Rat} (h : ∀ i, i < n → Ab (B : Rat) (g i)) : Ab ((n * B : Nat) : Rat) (rs n g) := by
  induction n with
  | zero => exact ab_0 Rat.natCast_nonneg
  | succ n ih =>
    rw [rs_succ, Nat.succ_mul, Rat.natCast_add]
    exact (ih fun i hi => h i (by omega)).add (h n (by omega))
/-- own plus what is behind -/
def an (c t : Nat → Rat) (n : Nat) : Rat := t n + ((List.range n).attach.map fun k => c k.1 * an c t (n - 1 - k.1)).sum
termination_by n
decreasing_by
  have := List.mem_range.mp k.2
  omega
theorem an_eq (c t : Nat → Rat) (n : Nat) : an c t n = t n + rs n (fun k => c k * an c t (n - 1 - k)) := by
  rw [an]
  congr 2
  exact List.attach_map_val (l := List.range n) (f := fun k => c k * an c t (n - 1 - k))
theorem an_wh {c t : Nat → Rat} {D E m : Nat} (hc : ∀ k, k < m → Wh D (c k)) (ht : ∀ k, k ≤ m → Wh E (t k)) : ∀ n, n ≤ m → Wh (E * D ^ n) (an c t n) := by
  intro n
  induction n using Nat.strongRecOn with
  | ind n ih =>
    intro hn
    rw [an_eq]
    refine ((ht n hn).up (Nat.dvd_mul_right _ _)).add (rs_wh fun k hk => ?_)
    have q := (hc k (by omega)).mul (ih (n - 1 - k) (by omega) (by omega))
    refine q.up ?_
    have e : D * (E * D ^ (n - 1 - k)) = E * D ^ (n - k) := by
      rw [show n - k = n - 1 - k + 1 by omega, Nat.pow_succ]
      simp only [Nat.mul_assoc, Nat.mul_left_comm, Nat.mul_comm]
    rw [e]
    exact Nat.mul_dvd_mul_left E (Nat.pow_dvd_pow D (by omega))
theorem an_ab {c t : Nat → Rat} {B M m : Nat} (hc : ∀ k, k < m → Ab 1 (c k)) (ht : ∀ k, k ≤ m → Ab (B : Rat) (t k)) (hM : m + 1 ≤ M) : ∀ n, n ≤ m → Ab ((B * M ^ n : Nat) : Rat) (an c t n) := by
  intro n
  induction n using Nat.strongRecOn with
  | ind n ih =>
    intro hn
    rw [an_eq]
    cases n with
    | zero =>
      rw [rs_zero, Nat.pow_zero, Nat.mul_one]
      have := ht 0 hn
      exact ⟨by have := this.1; grind, by have := this.2; grind⟩
    | succ n =>
      have q : ∀ k, k < n + 1 → Ab ((B * M ^ n : Nat) : Rat) (c k * an c t (n + 1 - 1 - k)) := fun k hk => by
        have a := (hc k (by omega)).mul (ih (n + 1 - 1 - k) (by omega) (by omega))
        have e : (1 : Rat) * ((B * M ^ (n + 1 - 1 - k) : Nat) : Rat) = ((B * M ^ (n + 1 - 1 - k) : Nat) : Rat) := by grind
        rw [e] at a
        exact a.up (Rat.natCast_le_natCast.mpr (Nat.mul_le_mul_left B (Nat.pow_le_pow_right (by omega) (by omega))))
      have r := (ht (n + 1) hn).add (rs_ab q)
      rw [← Rat.natCast_add] at r
      refine r.up (Rat.natCast_le_natCast.mpr ?_)
      have h1 : B ≤ B * M ^ n := Nat.le_mul_of_pos_right B (Nat.pow_pos (by omega))
      have h2 : (n + 1) * (B * M ^ n) + B * M ^ n ≤ B * M ^ (n + 1) := by
        have e : (n + 1) * (B * M ^ n) + B * M ^ n = (n + 2) * (B * M ^ n) := by rw [← Nat.succ_mul]
        have e2 : B * M ^ (n + 1) = M * (B * M ^ n) := by rw [Nat.pow_succ, ← Nat.mul_assoc, Nat.mul_comm]
        rw [e, e2]
        exact Nat.mul_le_mul_right _ (by omega)
      omega
def tg (ts : List Rat) (i : Nat) : Rat := ts.getD i 0
end Fp
namespace Fp
open PySem PySem.Spec L2 Dn
def dl (n : Nat) : Rat := if n = 0 then 1 else 0
theorem map_set {n j : Nat} {g : Nat → PyData} {x : PyData} (hj : j < n) : ((List.range n).map g).set j x = (List.range n).map fun m => if m = j then x else g m := by
  apply List.ext_getElem
  · simp
  · intro i h1 h2
    rw [List.getElem_set]
    simp
    by_cases e : j = i
    · subst e
      simp
    · rw [if_neg e, if_neg (fun z => e z.symm)]
end Fp
namespace Fp
open PySem PySem.Spec L2 Dn
end Fp
namespace Fp
open PySem PySem.Spec L2 Dn
end Fp
namespace Fp
open PySem PySem.Spec L2 Dn
end Fp
namespace Fp
open PySem PySem.Spec L2 Dn
end Fp
namespace Fp
open PySem PySem.Spec L2 Dn
/-- a whole number comes of it by K to the n-th, it is at most 2 to the e-th -/
structure G (K n e : Nat) (x : Rat) : Prop where
  w : Wh (K ^ n) x
  a : Ab ((2 ^ e : Nat) : Rat) x
section
variable {K n m e d b l : Nat} {x y : Rat}
theorem G.up (h : G K n e x) (hn : n ≤ m) (he : e ≤ d) : G K m d x := ⟨h.w.up (Nat.pow_dvd_pow K hn), h.a.up (Rat.natCast_le_natCast.mpr (Nat.pow_le_pow_right (by decide) he))⟩
theorem G.mul (h : G K n e x) (k : G K m d y) : G K (n + m) (e + d) (x * y) := ⟨by rw [Nat.pow_add]; exact h.w.mul k.w, by rw [Nat.pow_add, Rat.natCast_mul]; exact h.a.mul k.a⟩
theorem two_more {e : Nat} : ((2 ^ (e + 1) : Nat) : Rat) = ((2 ^ e : Nat) : Rat) + ((2 ^ e : Nat) : Rat) := by
  rw [← Rat.natCast_add]
  congr 1
  rw [Nat.pow_succ]
  omega
theorem G.add (h : G K n e x) (k : G K n e y) : G K n (e + 1) (x + y) := ⟨h.w.add k.w, by rw [two_more]; exact h.a.add k.a⟩
theorem G.sub (h : G K n e x) (k : G K n e y) : G K n (e + 1) (x - y) := ⟨h.w.sub k.w, by rw [two_more]; exact h.a.sub k.a⟩
theorem sum_ab {B : Nat} : ∀ {xs : List Rat}, (∀ x ∈ xs, Ab (B : Rat) x) → Ab ((xs.length * B : Nat) : Rat) xs.sum
  | [], _ => by
    rw [List.sum_nil]
    exact ab_0 Rat.natCast_nonneg
  | x :: xs, h => by
    have a := (h x List.mem_cons_self).add (sum_ab fun y hy => h y (List.mem_cons_of_mem _ hy))
    rw [← Rat.natCast_add] at a
    rw [List.sum_cons, List.length_cons, Nat.add_mul, Nat.one_mul, Nat.add_comm]
    exact a
theorem G.sum {xs : List Rat} (h : ∀ x ∈ xs, G K n e x) (hl : xs.length ≤ 2 ^ l) : G K n (e + l) xs.sum :=
  ⟨sum_wh fun x hx => (h x hx).w, (sum_ab fun x hx => (h x hx).a).up (Rat.natCast_le_natCast.mpr (by rw [Nat.pow_add, Nat.mul_comm]; exact Nat.mul_le_mul_left _ hl))⟩
theorem G.rs {N : Nat} {g : Nat → Rat} (h : ∀ k, k < N → G K n e (g k)) (hl : N ≤ 2 ^ l) : G K n (e + l) (rs N g) := by
  refine G.sum (fun x hx => ?_) (by rw [List.length_map, List.length_range]; exact hl)
  obtain ⟨k, hk, rfl⟩ := List.mem_map.mp hx
  exact h k (List.mem_range.mp hk)
theorem pow_le_two (hK : K ≤ 2 ^ b) (n : Nat) : K ^ n ≤ 2 ^ (b * n) := by
  rw [Nat.pow_mul]
  exact Nat.pow_le_pow_left hK n
theorem g_size (hK : K ≤ 2 ^ b) (hb : b * n + e < m) : 2 ^ e * K ^ n < 2 ^ m := by
  have h1 := Nat.mul_le_mul_left (2 ^ e) (pow_le_two hK n)
  rw [← Nat.pow_add] at h1
  exact Nat.lt_of_le_of_lt h1 (Nat.pow_lt_pow_right (by decide) (by omega))
theorem G.szN {N : Nat} (h : G K n e x) (K0 : 0 < K) (hK : K ≤ 2 ^ b) (hb : b * n + e < N) : Sz N x := ab_sz (Nat.pow_pos K0) h.w h.a (Nat.pow_pos (by decide)) (g_size hK hb)
theorem G.sz (h : G K n e x) (K0 : 0 < K) (hK : K ≤ 2 ^ b) (hb : b * n + e < 4000) : Sz 4000 x := h.szN K0 hK hb
theorem G.of {D : Nat} (hw : Wh D x) (hd : D ∣ K) (h0 : 0 ≤ x) (h1 : x ≤ 1) : G K 1 0 x := ⟨by rw [Nat.pow_one]; exact hw.up hd, by rw [Nat.pow_zero]; exact ab_01 h0 h1⟩
theorem g_int {i : Int} (h : i.natAbs ≤ 2 ^ e) : G K n e (i : Rat) := by
  refine ⟨wh_int i, ?_, ?_⟩
  · rw [← Rat.intCast_natCast, ← Rat.intCast_neg]
    exact Rat.intCast_le_intCast.mpr (by omega)
  · rw [← Rat.intCast_natCast]
    exact Rat.intCast_le_intCast.mpr (by omega)
theorem g_1 : G K n e 1 := g_int (i := 1) (Nat.pow_pos (by decide))
theorem sz_int {i : Int} (h : i.natAbs < 2 ^ 3900) : Sz 4000 (i : Rat) := by
  refine ⟨?_, ?_⟩
  · rw [Rat.num_intCast]
    exact Nat.lt_trans h (by decide)
  · rw [Rat.den_intCast]
    decide
theorem sz_1 : Sz 4000 1 := sz_int (i := 1) (by decide)
end
section
variable {K n e b : Nat} {x y : Rat} {f : Feed}
theorem sub_size (hx : Sz 4000 x) (hy : Sz 4000 y) : (x.num * y.den - y.num * x.den).natAbs < 2 ^ 8500 ∧ x.den * y.den < 2 ^ 8500 := by
  have b1 := prod_lt hx.num hy.den (Nat.le_refl _)
  have b2 := prod_lt hy.num hx.den (Nat.le_refl _)
  have b3 := prod_lt hx.den hy.den (Nat.le_refl _)
  have k : (2 : Nat) ^ 8000 + 2 ^ 8000 ≤ 2 ^ 8500 := by decide
  have a1 : (x.num * y.den).natAbs = x.num.natAbs * y.den := by rw [Int.natAbs_mul, Int.natAbs_natCast]
  have a2 : (y.num * x.den).natAbs = y.num.natAbs * x.den := by rw [Int.natAbs_mul, Int.natAbs_natCast]
  have a3 := Int.natAbs_sub_le (x.num * y.den) (y.num * x.den)
  exact ⟨by omega, by omega⟩
theorem minus_q (hx : Sz 4000 x) (hy : Sz 4000 y) : F_minus [.dat (enc x), .dat (enc y)] f = .ok (.dat (enc (x - y))) f := by
  have m1 : oMul (.int x.num) (.int (y.den : Nat)) = some (.dat (.int (x.num * y.den))) := oMul_int (mulC_sz hx.num (by rw [Int.natAbs_natCast]; exact hy.den) (Nat.le_refl _))
  have m2 : oMul (.int y.num) (.int (x.den : Nat)) = some (.dat (.int (y.num * x.den))) := oMul_int (mulC_sz hy.num (by rw [Int.natAbs_natCast]; exact hx.den) (Nat.le_refl _))
  have m3 : oMul (.int (x.den : Nat)) (.int (y.den : Nat)) = some (.dat (.int (x.den * y.den))) := oMul_int (mulC_sz (by rw [Int.natAbs_natCast]; exact hx.den) (by rw [Int.natAbs_natCast]; exact hy.den) (Nat.le_refl _))
  have s := sub_size hx hy
  have r1 := ratio_big (f := f) (Nat.mul_pos x.den_pos y.den_pos) s.1 s.2
  rw [Int.natCast_mul, sub_eq] at r1
  apply ev_is
  rw [u_minus, ev_dEnd]
  unfold S_minus enc
  simp [m1, m2, m3]
  exact ⟨_, f, r1, by simp [enc]⟩
theorem num_pos {y : Rat} (h : 0 < y) : 0 < y.num := by
  have d : (0 : Rat) < (y.den : Rat) := Rat.natCast_pos.mpr y.den_pos
  have e := mul_den y
  have : (0 : Rat) < (y.num : Rat) := by
    rw [← e]
    exact Rat.mul_pos h d
  exact Rat.intCast_lt_intCast.mp (show ((0 : Int) : Rat) < (y.num : Rat) from this)
theorem div_eq {x y : Rat} (h : 0 < y) : mkRat (x.num * y.den) (x.den * y.num.toNat) = x / y := by
  have hn := num_pos h
  have e : ((y.num.toNat : Nat) : Rat) = (y.num : Rat) := by
    rw [← Rat.intCast_natCast, Int.toNat_of_nonneg (by omega)]
  rw [Rat.mkRat_eq_div, Rat.natCast_mul, Rat.intCast_mul, Rat.intCast_natCast, e, ← mul_den x, ← mul_den y]
  have a := cast_ne x.den_pos
  have b := cast_ne y.den_pos
  have c : y ≠ 0 := by grind
  grind
theorem over_q (hx : Sz 4000 x) (hy : Sz 4000 y) (h0 : 0 < y) : F_over [.dat (enc x), .dat (enc y)] f = .ok (.dat (enc (x / y))) f := by
  have hn := num_pos h0
  have m1 : oMul (.int x.num) (.int (y.den : Nat)) = some (.dat (.int (x.num * y.den))) := oMul_int (mulC_sz hx.num (by rw [Int.natAbs_natCast]; exact hy.den) (Nat.le_refl _))
  have m3 : oMul (.int (x.den : Nat)) (.int y.num) = some (.dat (.int (x.den * y.num))) := oMul_int (mulC_sz (by rw [Int.natAbs_natCast]; exact hx.den) hy.num (Nat.le_refl _))
  have e : (x.den * y.num : Int) = ((x.den * y.num.toNat : Nat) : Int) := by
    rw [Int.natCast_mul, Int.toNat_of_nonneg (by omega)]
  have b1 := prod_lt hx.num hy.den (Nat.le_refl _)
  have b3 := prod_lt hx.den hy.num (Nat.le_refl _)
  have k : (2 : Nat) ^ 8000 ≤ 2 ^ 8500 := by decide
  have e2 : y.num.toNat = y.num.natAbs := by omega
  have r1 := ratio_big (f := f) (p := x.num * y.den) (q := x.den * y.num.toNat) (Nat.mul_pos x.den_pos (by omega)) (by rw [Int.natAbs_mul, Int.natAbs_natCast]; omega) (by rw [e2]; omega)
  rw [div_eq h0] at r1
  rw [e] at m3
  apply ev_is
  rw [u_over, ev_dEnd]
  unfold S_over
  rw [show enc x = .tuple [.int x.num, .int (x.den : Nat)] from rfl, show enc y = .tuple [.int y.num, .int (y.den : Nat)] from rfl]
  simp only [e_ret, e_Call, e_Vals_cons, e_Vals_nil, e_Bin, e_V, e_C, e_fnSlot_dat, List.getElem?_cons_succ, List.getElem?_cons_zero, pk_ok_dat, e_ix_tuple, e_at0, e_at1, Option.map_some, give_some, m1, m3, bind_ok, e_arg_dat, r1, ev_ok, retP_rt, e_up_dat]
  exact ⟨trivial, trivial⟩
theorem sz_div {a c : Nat} (hx : Sz a x) (hy : Sz c y) (h0 : 0 < y) : Sz (a + c) (x / y) := by
  have hn := num_pos h0
  have e2 : y.num.toNat = y.num.natAbs := by omega
  rw [← div_eq h0]
  have q0 : 0 < x.den * y.num.toNat := Nat.mul_pos x.den_pos (by omega)
  have l1 : x.num.natAbs * y.den < 2 ^ (a + c) := by
    rw [Nat.pow_add]
    exact Nat.mul_lt_mul_of_lt_of_lt hx.num hy.den
  have l2 : x.den * y.num.toNat < 2 ^ (a + c) := by
    rw [Nat.pow_add, e2]
    exact Nat.mul_lt_mul_of_lt_of_lt hx.den hy.num
  refine ⟨?_, ?_⟩
  · rw [Rat.num_mkRat, if_neg (by omega), Int.natAbs_ediv_of_dvd (Int.ofNat_dvd_left.mpr (Nat.gcd_dvd_right _ _)), Int.natAbs_mul, Int.natAbs_natCast]
    exact Nat.lt_of_le_of_lt (Nat.div_le_self _ _) l1
  · rw [Rat.den_mkRat, if_neg (by omega)]
    exact Nat.lt_of_le_of_lt (Nat.div_le_self _ _) l2
end
@[simp] theorem ix_enc0 {x : Rat} : oIx (enc x) (.int 0) = some (.dat (.int x.num)) := nr rfl
@[simp] theorem ix_enc1 {x : Rat} : oIx (enc x) (.int 1) = some (.dat (.int (x.den : Nat))) := nr rfl
theorem oRepr_of {d : PyData} (h : Dn.shows d = true) : oRepr d = some (.dat (.str d.shown)) := by
  unfold oRepr
  rw [if_pos h]
theorem fd0 (ns : List Int) : Fd 0 (feed0 ns) := ⟨Int.le_refl 0, Int.le_refl 0, Int.le_refl 0, Int.le_refl 0⟩
end Fp
namespace Fp
open PySem PySem.Spec L2 Dn
theorem low_num {p : Int} {q : Nat} (hq : 0 < q) : (mkRat p q).num.natAbs ≤ p.natAbs ∧ (mkRat p q).den ≤ q := by
  obtain ⟨g, a, b, hg, hb, e1, e2, e3, e4⟩ := low_parts p hq
  rw [low_eq hq] at e4
  have e5 : (mkRat p q).num = a ∧ ((mkRat p q).den : Int) = b := by
    injection e4 with e4
    injection e4 with h1 h2
    injection h1 with h1
    injection h2 with h2 h3
    injection h2 with h2
    exact ⟨h1, h2⟩
  have e6 : (mkRat p q).den = b := by omega
  rw [e5.1, e6, e1, e2, Int.natAbs_mul, Int.natAbs_natCast]
  exact ⟨Nat.le_mul_of_pos_left _ hg, Nat.le_mul_of_pos_left _ hg⟩
section
variable {p q : Int} {f : Feed} {x y : Rat}
theorem m_nd {n : Nat} (hx : Sz n x) (hy : Sz n y) (hn : n ≤ 4000) : oMul (.int x.num) (.int (y.den : Nat)) = some (.dat (.int (x.num * y.den))) := oMul_int (mulC_sz hx.num (by rw [Int.natAbs_natCast]; exact hy.den) hn)
theorem m_dd {n : Nat} (hx : Sz n x) (hy : Sz n y) (hn : n ≤ 4000) : oMul (.int (x.den : Nat)) (.int (y.den : Nat)) = some (.dat (.int (x.den * y.den))) := oMul_int (mulC_sz (by rw [Int.natAbs_natCast]; exact hx.den) (by rw [Int.natAbs_natCast]; exact hy.den) hn)
theorem is_below_q {n : Nat} (hx : Sz n x) (hy : Sz n y) (hn : n ≤ 4000) : F_is_below [.dat (enc x), .dat (enc y)] f = .ok (.dat (.bool (decide (x.num * y.den < y.num * x.den)))) f := by
  apply ev_is
  rw [u_is_below, ev_dEnd]
  unfold S_is_below
  simp [enc, m_nd hx hy hn, m_nd hy hx hn]
end
end Fp
namespace Fp
open PySem PySem.Spec L2 Dn
def isW : PyData → Bool
  | .int _ => true
  | _ => false
def isr2 : PyData → PyData → Bool
  | .int p, .int q => decide (0 < q ∧ Nat.gcd p.natAbs q.natAbs = 1)
  | _, _ => false
def isr : PyData → Bool
  | .tuple [x, y] => isr2 x y
  | _ => false
theorem is_whole_any {d : PyData} {f : Feed} (hd : okTy d = true) : F_is_whole [.dat d] f = .ok (.dat (.bool (isW d))) f := by
  apply ev_is
  rw [u_is_whole, ev_dEnd]
  unfold S_is_whole
  cases d with
  | dict kvs => simp [isW, hd]
  | _ => simp [isW]
theorem isr2_no {x y : PyData} (h : ¬ (isW x = true ∧ isW y = true)) : isr2 x y = false := by
  cases x <;> cases y <;> simp [isr2, isW] at h ⊢
theorem isW_int {x : PyData} (h : isW x = true) : ∃ i, x = .int i := by
  cases x <;> simp [isW] at h ⊢
theorem two_or (xs : List PyData) : (∃ x y, xs = [x, y]) ∨ (xs.length ≠ 2 ∧ isr (.tuple xs) = false) := by
  match xs with
  | [] => exact .inr ⟨by simp, rfl⟩
  | [x] => exact .inr ⟨by simp, rfl⟩
  | [x, y] => exact .inl ⟨x, y, rfl⟩
  | x :: y :: z :: r => exact .inr ⟨by simp, rfl⟩
theorem is_ratio_any {d : PyData} {f : Feed} {e b k : Nat} (hd : Th e b k d) : F_is_ratio [.dat d] f = .ok (.dat (.bool (isr d))) f := by
  apply ev_is
  rw [u_is_ratio, ev_dEnd]
  unfold S_is_ratio
  cases d with
  | tuple xs =>
    rcases two_or xs with ⟨x, y, rfl⟩ | ⟨h, e⟩
    · obtain ⟨j, _, hL⟩ := hd.tup
      have wx := fun g => is_whole_any (f := g) (hL.mem (d := x) (by simp)).oky
      have wy := fun g => is_whole_any (f := g) (hL.mem (d := y) (by simp)).oky
      by_cases hx : isW x = true
      · by_cases hy : isW y = true
        · obtain ⟨p, rfl⟩ := isW_int hx
          obtain ⟨q, rfl⟩ := isW_int hy
          by_cases hq : 1 ≤ q
          · obtain ⟨n, rfl⟩ := Int.eq_ofNat_of_zero_le (show 0 ≤ q by omega)
            simp [isr, isr2, isW, wx, wy, common_ok, hq]
            rw [decide_eq_true (show 0 < n by omega), Bool.true_and]
            rw [decide_eq_decide]
            omega
          · have hq2 : ¬ 0 < q := by omega
            simp [isr, isr2, isW, wx, wy, hq, hq2]
        · simp [isr, isr2_no, wx, wy, hx, hy]
      · simp [isr, isr2_no, wx, wy, hx]
    · have h2 : ¬ ((xs.length : Int) = 2) := by omega
      simp [h2, e]
  | dict kvs =>
    have hok := hd.oky
    simp [hok, isr]
  | _ => simp [isr]
theorem th_enc {x : Rat} {n : Nat} (h : Sz n x) : Th n (2 * n + 4) 1 (enc x) := by
  have a : Th n (n + 1) 0 (.int x.num) := th_int h.num
  have b : Th n (n + 1) 0 (.int (x.den : Nat)) := th_int (by rw [Int.natAbs_natCast]; exact h.den)
  exact (th_tuple (thL_cons a (thL_one b))).up (Nat.le_refl _) (by omega) (Nat.le_refl _)
def LastT (i : Nat) (d : PyData) : Prop := Th (204 + 4 * i) (2 ^ i * 1200 - 160) (6 + 5 * i) d
theorem LastT.ok {i : Nat} {d : PyData} (h : LastT i d) (hi : i ≤ 3) : Th 1850 16000 60 d := by
  have : 2 ^ i ≤ 2 ^ 3 := Nat.pow_le_pow_right (by decide) hi
  exact Th.up h (by omega) (by omega) (by omega)
end Fp
namespace Fp
open PySem PySem.Spec L2 Dn
/-- all chances behind k -/
def rest (L : Life) (k : Nat) : Rat := tot L - rs k fun i => ch L (i + 1)
/-- it lasts more than k -/
def lasts (L : Life) (k : Nat) : Rat := 1 - rs k fun i => ch L (i + 1)
/-- the bottom of all to m -/
abbrev kk (W s m : Nat) : Nat := 12 * (W * s ^ m)
section
variable {W s m k : Nat} {L : Life} {f : Feed}
theorem LOk.k0 (h : LOk W s L) : 0 < kk W s m := Nat.mul_pos (by decide) (Nat.mul_pos h.W0 (Nat.pow_pos h.s0))
theorem LOk.st1' (h : LOk W s L) : L.step ≤ 1 := by
  have := h.st1
  grind
theorem LOk.gch (h : LOk W s L) (hk : k ≤ m) : G (kk W s m) 1 0 (Fp.ch L k) := by
  have c := h.ch hk
  exact G.of c.1 (Nat.dvd_mul_left _ _) c.2.1 c.2.2
end
end Fp
namespace Fp
open PySem PySem.Spec L2 Dn
end Fp
namespace Fp
open PySem PySem.Spec L2 Dn
@[simp] theorem ix_life0 {L : Life} : oIx (lifeD L) (.int 0) = some (.dat (.tuple (L.row.map enc))) := nr rfl
@[simp] theorem ix_life1 {L : Life} : oIx (lifeD L) (.int 1) = some (.dat (enc L.step)) := nr rfl
theorem G.an {K d e m : Nat} {c t : Nat → Rat} (hc : ∀ k, k < m → G K 1 0 (c k)) (ht : ∀ k, k ≤ m → G K d e (t k)) (hm : m ≤ 31) : ∀ n, n ≤ m → G K (d + n) (e + 5 * n) (an c t n) := fun n hn => by
  refine ⟨?_, ?_⟩
  · rw [Nat.pow_add]
    exact an_wh (fun k hk => by have := (hc k hk).w; rwa [Nat.pow_one] at this) (fun k hk => (ht k hk).w) n hn
  · have a := an_ab (B := 2 ^ e) (M := 32) (m := m) (c := c) (t := t) (fun k hk => by have := (hc k hk).a; rwa [Nat.pow_zero] at this) (fun k hk => (ht k hk).a) (by omega) n hn
    rwa [show 2 ^ e * 32 ^ n = 2 ^ (e + 5 * n) by rw [Nat.pow_add, Nat.pow_mul]] at a
end Fp
namespace Fp
open PySem PySem.Spec L2 Dn
section
variable {W s N : Nat} {L : Life} {f : Feed}
end
end Fp
namespace Fp
open PySem PySem.Spec L2 Dn
def far (L : Life) (n : Nat) : Life := ⟨List.replicate n 0 ++ L.row, L.step⟩
theorem sum_zeros : ∀ n : Nat, (List.replicate n (0 : Rat)).sum = 0
  | 0 => rfl
  | n + 1 => by
    rw [List.replicate_succ, List.sum_cons, sum_zeros n]
    grind
theorem far_tot {L : Life} {n : Nat} (h : L.row = [] → L.step = 0) : tot (far L n) = tot L := by
  unfold tot far
  show (List.replicate n 0 ++ L.row).sum + lastR ⟨List.replicate n 0 ++ L.row, L.step⟩ * L.step / (1 - L.step) = _
  rw [List.sum_append, sum_zeros, Rat.zero_add]
  congr 1
  by_cases z : L.row = []
  · rw [h z, Rat.mul_zero, Rat.mul_zero]
  · congr 2
    unfold lastR
    rw [List.getLastD_eq_getLast?, List.getLastD_eq_getLast?, List.getLast?_append, List.getLast?_eq_some_getLast z]
    rfl
theorem LOk.far {W s n : Nat} {L : Life} (h : LOk W s L) : LOk W s (Fp.far L n) := by
  refine ⟨h.W0, h.s0, fun x hx => ?_, h.step, h.st0, h.st1, fun z => ?_, by rw [far_tot h.emp]; exact h.tot1⟩
  · rcases List.mem_append.mp hx with q | q
    · rw [List.eq_of_mem_replicate q]
      exact ⟨wh_0, by decide, by decide⟩
    · exact h.row x q
  · exact h.emp (List.append_eq_nil_iff.mp z).2
end Fp
namespace Fp
open PySem PySem.Spec L2 Dn
@[simp] theorem isNone_enc {x : Rat} : isNone (enc x) = false := nr rfl
@[simp] theorem isNone_none : isNone .none = true := nr rfl
theorem sz_mk {p : Int} {q n : Nat} (hq : 0 < q) (h1 : p.natAbs < 2 ^ n) (h2 : q < 2 ^ n) : Sz n (mkRat p q) := by
  refine ⟨?_, ?_⟩
  · rw [Rat.num_mkRat, if_neg (by omega), Int.natAbs_ediv_of_dvd (Int.ofNat_dvd_left.mpr (Nat.gcd_dvd_right _ _))]
    exact Nat.lt_of_le_of_lt (Nat.div_le_self _ _) h1
  · rw [Rat.den_mkRat, if_neg (by omega)]
    exact Nat.lt_of_le_of_lt (Nat.div_le_self _ _) h2
theorem Sz.mul {a b : Nat} {x y : Rat} (hx : Sz a x) (hy : Sz b y) : Sz (a + b) (x * y) := by
  rw [← mul_eq]
  refine sz_mk (Nat.mul_pos x.den_pos y.den_pos) ?_ ?_
  · rw [Int.natAbs_mul, Nat.pow_add]
    exact Nat.mul_lt_mul_of_lt_of_lt hx.num hy.num
  · rw [Nat.pow_add]
    exact Nat.mul_lt_mul_of_lt_of_lt hx.den hy.den
theorem Sz.add {a b : Nat} {x y : Rat} (hx : Sz a x) (hy : Sz b y) : Sz (a + b + 1) (x + y) := by
  rw [← add_eq]
  have h1 := Nat.mul_lt_mul_of_lt_of_lt hx.num hy.den
  have h2 := Nat.mul_lt_mul_of_lt_of_lt hy.num hx.den
  have h3 := Nat.mul_lt_mul_of_lt_of_lt hx.den hy.den
  have e : 2 ^ (a + b + 1) = 2 ^ a * 2 ^ b + 2 ^ b * 2 ^ a := by
    rw [Nat.pow_succ, Nat.pow_add, Nat.mul_comm (2 ^ b)]
    omega
  refine sz_mk (Nat.mul_pos x.den_pos y.den_pos) ?_ ?_
  · have a1 : (x.num * y.den).natAbs = x.num.natAbs * y.den := by rw [Int.natAbs_mul, Int.natAbs_natCast]
    have a2 : (y.num * x.den).natAbs = y.num.natAbs * x.den := by rw [Int.natAbs_mul, Int.natAbs_natCast]
    have a3 := Int.natAbs_add_le (x.num * y.den) (y.num * x.den)
    omega
  · omega
theorem Sz.neg {a : Nat} {x : Rat} (hx : Sz a x) : Sz a (-x) := ⟨by rw [show (-x).num = -x.num from rfl, Int.natAbs_neg]; exact hx.num, by rw [show (-x).den = x.den from rfl]; exact hx.den⟩
theorem Sz.sub {a b : Nat} {x y : Rat} (hx : Sz a x) (hy : Sz b y) : Sz (a + b + 1) (x - y) := by
  rw [Rat.sub_eq_add_neg]
  exact hx.add hy.neg
section
variable {W s m k N : Nat} {L : Life} {f : Feed}
end
end Fp
namespace Fp
open PySem PySem.Spec L2 Dn
abbrev dd (W s : Nat) : Nat := kk W s 20 ^ 21 * (kk W s 40 * kk W s 4 ^ 3)
theorem G.base {K D n e : Nat} {x : Rat} (h : G K n e x) (hd : K ^ n ∣ D) : G D 1 e x := ⟨by rw [Nat.pow_one]; exact h.w.up hd, h.a⟩
section
variable {W s N M n m k : Nat} {L : Life} {f : Feed}
end
end Fp
namespace Fp
open PySem PySem.Spec L2 Dn
def rowW (c : Nat → Rat) (T : List (List (List Nat))) (m j : Nat) : List (List Nat) := (List.range j).flatMap fun k => if c k = 0 then [] else (T.getD (m - 1 - k) []).map fun w => (k + 1) :: w
def wyT (c : Nat → Rat) : Nat → List (List (List Nat))
  | 0 => [[[]]]
  | n + 1 => wyT c n ++ [rowW c (wyT c n) (n + 1) (n + 1)]
/-- all ways with a chance that come to n, rising -/
def wy (c : Nat → Rat) (n : Nat) : List (List Nat) := (wyT c n).getD n []
def WayOk (c : Nat → Rat) (n : Nat) (w : List Nat) : Prop := w.sum = n ∧ ∀ k ∈ w, 1 ≤ k ∧ c (k - 1) ≠ 0
/-- the chance of a way -/
def wc (c : Nat → Rat) (w : List Nat) : Rat := w.foldl (fun x k => x * c (k - 1)) 1
theorem wc_snoc (c : Nat → Rat) (w : List Nat) (k : Nat) : wc c (w ++ [k]) = wc c w * c (k - 1) := by
  unfold wc
  rw [List.foldl_append]
  rfl
/-- how many come ahead of n -/
def ahead (c : Nat → Rat) (n : Nat) : List (List Nat) := (List.range n).flatMap (wy c)
end Fp
namespace Fp
open PySem PySem.Spec L2 Dn
section
variable {W s N M n m k : Nat} {L : Life} {f : Feed}
end
end Fp
namespace Fp
open PySem PySem.Spec L2 Dn
end Fp
namespace Fp
open PySem PySem.Spec L2 Dn
theorem LOk.zero {W s s2 : Nat} {L : Life} {st : Rat} (h : LOk W s L) (hst : L.step = 0) (s20 : 0 < s2) (hw : Wh s2 st) (h0 : 0 ≤ st) (h1 : st < 1) : LOk W s2 ⟨L.row ++ [0], st⟩ :=
  ⟨h.W0, s20, fun x hx => by
    rcases List.mem_append.mp hx with q | q
    · exact h.row x q
    · rw [List.mem_singleton.mp q]
      exact ⟨wh_0, by decide, by decide⟩, hw, h0, h1, fun z => by simp at z, by rw [tot_zero hst]; exact h.tot1⟩
end Fp
namespace Fp
open PySem PySem.Spec L2 Dn
section
variable {K e d n : Nat} {x y : Rat} {f : Feed}
end
def lcs (xs : List Rat) : Nat := xs.foldl (fun a x => a.lcm x.den) 1
section
variable {K : Nat} {xs : List Rat} {f : Feed}
end
/-- the bottom of all chances of a life -/
def bsN (L : Life) : Nat := lcs L.row * L.step.den
section
variable {W s N m n k e : Nat} {L : Life} {f : Feed}
theorem LOk.den (h : LOk W s L) : ∀ x ∈ L.row, x.den ∣ W := fun x hx => (h.row x hx).1.dvd h.W0
end
end Fp
namespace Fp
open PySem PySem.Spec L2 Dn
abbrev bs (L : Life) : Rat := (bsN L : Nat)
def nm (L : Life) (k : Nat) : Rat := if k = 0 then 0 else ch L k * bs L ^ k
def hi (L : Life) (n : Nat) : Rat := an (fun k => ch L (k + 1)) dl n * bs L ^ n
section
variable {W s N m n k e d K : Nat} {L : Life} {f : Feed} {x y : Rat}
theorem num_den (x : Rat) : ((x.num : Int) : Rat) = x * (x.den : Rat) := by
  have := mk_mul (i := x.num) x.den_pos
  rw [Rat.mkRat_self] at this
  exact this.symm
end
end Fp
namespace Fp
open PySem PySem.Spec L2 Dn
section
variable {W s N m n k e d K : Nat} {L : Life} {f : Feed} {x y : Rat}
end
end Fp
namespace Fp
open PySem PySem.Spec L2 Dn
theorem lt_num (x y : Rat) : (x.num * (y.den : Nat) < y.num * (x.den : Nat)) ↔ x < y := by
  have dx : (0 : Rat) < (x.den : Rat) := Rat.natCast_pos.mpr x.den_pos
  have dy : (0 : Rat) < (y.den : Rat) := Rat.natCast_pos.mpr y.den_pos
  have e1 : ((x.num * (y.den : Nat) : Int) : Rat) = x * ((x.den : Rat) * (y.den : Rat)) := by
    rw [Rat.intCast_mul, num_den, Rat.intCast_natCast]
    grind
  have e2 : ((y.num * (x.den : Nat) : Int) : Rat) = y * ((x.den : Rat) * (y.den : Rat)) := by
    rw [Rat.intCast_mul, num_den, Rat.intCast_natCast]
    grind
  have p := Rat.mul_pos dx dy
  rw [← Rat.intCast_lt_intCast, e1, e2]
  generalize (x.den : Rat) * (y.den : Rat) = d at *
  constructor
  · intro h
    by_cases c : x < y
    · exact c
    · have := Rat.mul_le_mul_of_nonneg_right (show y ≤ x by grind) (Rat.le_of_lt p)
      grind
  · intro h
    have := Rat.mul_lt_mul_of_pos_right h p
    exact this
section
variable {W s N m n k e d K M r : Nat} {L : Life} {f : Feed} {x y : Rat}
end
end Fp
namespace Fp
open PySem PySem.Spec L2 Dn
/-- all stretches from 1 to 20, not too many -/
def Small (w : List Nat) : Prop := w.length ≤ 20 ∧ ∀ k ∈ w, 1 ≤ k ∧ k ≤ 40
abbrev cL (L : Life) : Nat → Rat := fun k => ch L (k + 1)
section
variable {W s : Nat} {L : Life} {f : Feed} {w : List Nat} {N : Nat}
theorem cL_at {k : Nat} (h : 1 ≤ k) : cL L (k - 1) = ch L k := by
  show ch L (k - 1 + 1) = _
  rw [show k - 1 + 1 = k by omega]
/-- the chance that behind a way a part stands over N -/
def sc (L : Life) (N : Nat) (w : List Nat) : Rat := wc (cL L) w * lasts L (N - w.sum)
theorem small_of {c : Nat → Rat} {n : Nat} (h : WayOk c n w) (hn : n ≤ 20) : Small w := by
  have key : ∀ v : List Nat, (∀ k ∈ v, 1 ≤ k) → v.length ≤ v.sum ∧ ∀ k ∈ v, k ≤ v.sum := by
    intro v
    induction v with
    | nil => intro _; exact ⟨Nat.le_refl _, fun k hk => by cases hk⟩
    | cons k r ih =>
      intro q
      obtain ⟨a, b⟩ := ih fun m hm => q m (List.mem_cons_of_mem _ hm)
      have := q k List.mem_cons_self
      rw [List.length_cons, List.sum_cons]
      refine ⟨by omega, fun m hm => ?_⟩
      rcases List.mem_cons.mp hm with rfl | hm
      · omega
      · have := b m hm
        omega
  obtain ⟨a, b⟩ := key w fun k hk => (h.2 k hk).1
  have := h.1
  exact ⟨by omega, fun k hk => ⟨(h.2 k hk).1, by have := b k hk; omega⟩⟩
end
end Fp
namespace Fp
open PySem PySem.Spec L2 Dn
section
variable {f : Feed} {w : List Nat}
end
end Fp
namespace Fp
open PySem PySem.Spec L2 Dn
section
variable {W s N : Nat} {L : Life} {f : Feed} {hits stands : List (List Nat)} {lo hi H S : Rat}
end
end Fp
namespace Fp
open PySem PySem.Spec L2 Dn
section
variable {W s N : Nat} {L : Life} {f : Feed}
end
end Fp
namespace Fp
open PySem PySem.Spec L2 Dn
theorem all_map {τ : Type} (l : List τ) (p : τ → Bool) : oAll (.list (l.map fun x => PyData.bool (p x))) = some (.dat (.bool (l.all p))) := by
  have := oAll_bools (ns := l.map p)
  rw [List.map_map] at this
  refine this.trans ?_
  simp [List.all_map]
section
variable {e b k : Nat} {d : PyData} {f : Feed}
end
theorem thL_of {α : Type} {e b k : Nat} {f : α → PyData} : ∀ {xs : List α}, (∀ x ∈ xs, Th e b k (f x)) → ThL e (xs.length * (b + 1)) k (xs.map f)
  | [], _ => thL_nil.up (Nat.zero_le _) (Nat.zero_le _) (Nat.zero_le _)
  | x :: r, h => by
    have a := thL_cons (h x List.mem_cons_self) (thL_of (xs := r) fun y hy => h y (List.mem_cons_of_mem _ hy))
    rw [List.map_cons, List.length_cons]
    exact a.up (Nat.le_refl _) (by rw [Nat.add_mul]; omega) (Nat.le_refl _)
end Fp
namespace Fp
open PySem PySem.Spec L2 Dn
section
variable {e b k : Nat} {d : PyData} {f : Feed}
end
theorem isr_enc {d : PyData} (h : isr d = true) : ∃ x : Rat, d = enc x := by
  cases d with
  | tuple xs =>
    rcases two_or xs with ⟨x, y, rfl⟩ | ⟨_, e⟩
    · simp only [isr] at h
      by_cases w : isW x = true ∧ isW y = true
      · obtain ⟨p, rfl⟩ := isW_int w.1
        obtain ⟨q, rfl⟩ := isW_int w.2
        simp only [isr2, decide_eq_true_eq] at h
        obtain ⟨n, rfl⟩ := Int.eq_ofNat_of_zero_le (show 0 ≤ q by omega)
        exact ⟨⟨p, n, by omega, h.2⟩, rfl⟩
      · rw [isr2_no w] at h
        cases h
    · rw [e] at h
      cases h
  | _ => simp [isr] at h
def Pos (ws : List (List Nat)) : Prop := ∀ w ∈ ws, ∀ k ∈ w, 1 ≤ k
section
variable {f : Feed} {N : Nat} {ws : List (List Nat)}
end
end Fp
namespace Fp
open PySem PySem.Spec L2 Dn
@[simp] theorem oLtA_int {x y : Int} : oLtA (.int x) (.int y) = some (.dat (.bool (decide (x < y)))) := nr rfl
section
variable {f : Feed} {N : Nat} {ws vs : List (List Nat)}
end
end Fp
namespace Fp
open PySem PySem.Spec L2 Dn
theorem sz_add2 {n m : Nat} {x y : Rat} (hx : Sz n x) (hy : Sz m y) : Sz (n + m + 1) (x + y) := by
  have pw : (2 : Nat) ^ (n + m + 1) = 2 ^ n * 2 ^ m + 2 ^ n * 2 ^ m := by rw [Nat.pow_succ, Nat.pow_add]; omega
  have a1 := Nat.mul_lt_mul_of_lt_of_lt hx.num hy.den
  have a2 := Nat.mul_lt_mul_of_lt_of_lt hx.den hy.num
  have a3 := Nat.mul_lt_mul_of_lt_of_lt hx.den hy.den
  have e1 : (x.num * y.den).natAbs = x.num.natAbs * y.den := by rw [Int.natAbs_mul, Int.natAbs_natCast]
  have e2 : (y.num * x.den).natAbs = x.den * y.num.natAbs := by rw [Int.natAbs_mul, Int.natAbs_natCast, Nat.mul_comm]
  have d0 : 0 < x.den * y.den := Nat.mul_pos x.den_pos y.den_pos
  rw [← add_eq]
  exact sz_mk d0 (by rw [pw]; omega) (by rw [pw]; omega)
theorem ix_0 {x : Rat} : oIx (enc x) (.int 0) = some (.dat (.int x.num)) := rfl
theorem ix_1 {x : Rat} : oIx (enc x) (.int 1) = some (.dat (.int (x.den : Nat))) := rfl
theorem below_4 {x y : Rat} {f : Feed} (hx : Sz 4000 x) (hy : Sz 4000 y) : F_is_below [.dat (enc x), .dat (enc y)] f = .ok (.dat (.bool (decide (x < y)))) f := by
  rw [is_below_q hx hy (Nat.le_refl _)]
  congr 3
  exact decide_eq_decide.mpr (lt_num x y)
section
variable {W s N : Nat} {L : Life} {f : Feed} {ws vs : List (List Nat)} {x y : Rat}
theorem small_1 {w : List Nat} {n : Nat} (h : ∀ k ∈ w, 1 ≤ k) (hs : w.sum = n) (hn : n ≤ 20) : Small w := small_of (c := fun _ => 1) (n := n) ⟨hs, fun k hk => ⟨h k hk, show (1 : Rat) ≠ 0 by decide⟩⟩ hn
end
end Fp
namespace Fp
open PySem PySem.Spec L2 Dn
noncomputable def S3 : Sm := sIf (tOrX (tNotX (cT (cUn (oIsi "tuple") (cVar 3)))) (tOrX (cT (cBin oGt (cUn oLen (cVar 3)) (cC (.int 200)))) (cT (cBin (oInF false) (cC (.bool false)) (cLc (iSeq (cVar 3)) (.one 5) (cYes) (cCall F_q_is_way [cVar 5]) [5]))))) (sRet (cTup [cC (.str "shape"), cC (.int 0)])) (sNext)
noncomputable def D2 : Sm := sIf (tOrX (tNotX (cT (cCall F_q_is_ratio [cBin oIx (cVar 2) (cC (.int 0))]))) (tNotX (cT (cCall F_q_is_ratio [cBin oIx (cVar 2) (cC (.int 1))])))) (sRet (cTup [cC (.str "shape"), cC (.int 0)])) (sNext)
section
variable {e b k : Nat} {c d : PyData} {f : Feed}
end
section
variable {W s N : Nat} {L : Life} {f : Feed} {ws vs : List (List Nat)} {x y : Rat} {t3 t4 t5 : Slot}
end
end Fp
namespace Fp
open PySem PySem.Spec L2 Dn
section
variable {W s N e b k : Nat} {L : Life} {f : Feed} {ws vs : List (List Nat)} {x y : Rat} {d : PyData}
end
end Fp
namespace Fp
open PySem PySem.Spec L2 Dn
/-- of a row from its end: noughts out -/
def tz : List Rat → List Rat
  | [] => []
  | x :: r => if x = 0 then tz r else x :: r
/-- .. chances that go on by the step out -/
def ts (st : Rat) : List Rat → List Rat
  | [] => []
  | x :: r => match r with
    | [] => [x]
    | y :: r2 => if y * st = x then ts st (y :: r2) else x :: y :: r2
theorem ts_two (st x y : Rat) (r : List Rat) : ts st (x :: y :: r) = if y * st = x then ts st (y :: r) else x :: y :: r := by
  rw [ts]
theorem ts_one (st x : Rat) : ts st [x] = [x] := by
  rw [ts]
def shortR (r : List Rat) (st : Rat) : Life := if r.head? = some 0 ∨ st = 0 then ⟨(tz r).reverse, 0⟩ else ⟨(ts st r).reverse, st⟩
def shortL (L : Life) : Life := shortR L.row.reverse L.step
/-- a row from its end, as data -/
def rd (r : List Rat) : List PyData := r.reverse.map enc
/-- what a life's numbers are: short -/
def Plain (L : Life) : Prop := (∀ x ∈ L.row, Sz 400 x) ∧ Sz 400 L.step
theorem LOk.plain {W s : Nat} {L : Life} (h : LOk W s L) (hW : W ≤ 2 ^ 90) (hs : s ≤ 4) : Plain L :=
  ⟨fun x hx => ab_sz (B := 1) h.W0 (h.row x hx).1 (ab_01 (h.row x hx).2.1 (h.row x hx).2.2) (by decide) (Nat.lt_of_le_of_lt (Nat.mul_le_mul_left 1 hW) (by decide)), ab_sz (B := 1) h.s0 h.step (ab_01 h.st0 h.st1') (by decide) (Nat.lt_of_le_of_lt (Nat.mul_le_mul_left 1 hs) (by decide))⟩
section
variable {L : Life} {f : Feed}
end
end Fp
namespace Fp
open PySem PySem.Spec L2 Dn
theorem tz_mem {x : Rat} : ∀ {r : List Rat}, x ∈ tz r → x ∈ r
  | [], h => h
  | y :: r, h => by
    by_cases q : y = 0
    · rw [tz, if_pos q] at h
      exact List.mem_cons_of_mem _ (tz_mem h)
    · rw [tz, if_neg q] at h
      exact h
theorem ts_mem {x st : Rat} : ∀ {r : List Rat}, x ∈ ts st r → x ∈ r
  | [], h => by
    rw [ts] at h
    exact h
  | [y], h => by
    rw [ts_one] at h
    exact h
  | y :: z :: r, h => by
    by_cases q : z * st = y
    · rw [ts_two, if_pos q] at h
      exact List.mem_cons_of_mem _ (ts_mem h)
    · rw [ts_two, if_neg q] at h
      exact h
theorem short_mem {L : Life} {x : Rat} (h : x ∈ (shortL L).row) : x ∈ L.row := by
  unfold shortL shortR at h
  split at h
  · exact List.mem_reverse.mp (tz_mem (List.mem_reverse.mp h))
  · exact List.mem_reverse.mp (ts_mem (List.mem_reverse.mp h))
theorem short_step (L : Life) : (shortL L).step = 0 ∨ (shortL L).step = L.step := by
  unfold shortL shortR
  split
  · exact .inl rfl
  · exact .inr rfl
theorem Plain.short {L : Life} (h : Plain L) : Plain (shortL L) := ⟨fun x hx => h.1 x (short_mem hx), by
  rcases short_step L with e | e
  · rw [e]
    exact ab_sz (D := 1) (B := 1) (by decide) wh_0 ⟨by decide, by decide⟩ (by decide) (by decide)
  · rw [e]
    exact h.2⟩
theorem last_rev {L : Life} (h : L.row ≠ []) : ∃ t, L.row.reverse = lastR L :: t := by
  refine ⟨L.row.dropLast.reverse, ?_⟩
  have e := List.dropLast_concat_getLast h
  have e2 : lastR L = L.row.getLast h := by
    unfold lastR
    rw [List.getLastD_eq_getLast?, List.getLast?_eq_some_getLast h]
    rfl
  rw [e2]
  conv => lhs; rw [← e]
  rw [List.reverse_append]
  rfl
theorem short_more {L : Life} (h1 : L.row ≠ []) (h2 : L.step ≠ 0) (h3 : lastR L ≠ 0) : shortL ⟨L.row ++ [lastR L * L.step], L.step⟩ = shortL L := by
  obtain ⟨t, e⟩ := last_rev h1
  have e2 : (L.row ++ [lastR L * L.step]).reverse = lastR L * L.step :: lastR L :: t := by
    rw [List.reverse_append, e]
    rfl
  have hm : lastR L * L.step ≠ 0 := fun z => by
    rcases Rat.mul_eq_zero.mp z with q | q
    · exact h3 q
    · exact h2 q
  unfold shortL
  show shortR (L.row ++ [lastR L * L.step]).reverse L.step = _
  rw [e2, e]
  unfold shortR
  rw [if_neg (by simp [hm, h2]), if_neg (by simp [h3, h2]), ts_two, if_pos rfl]
/-- a life that is made longer -/
structure Lg (L M : Life) : Prop where
  row : ∀ x ∈ M.row, Sz (16 + 4 * M.row.length) x
  stp : Sz 4 M.step
  emp : M.row = [] → M.step = 0
  len : M.row.length ≤ 12
  end12 : M.row.length = 12 → M.step = 0 → lastR M = 0
  sh : shortL M = shortL L
theorem Lg.plain {L M : Life} (h : Lg L M) : Plain M := ⟨fun x hx => (h.row x hx).up (by have := h.len; omega), h.stp.up (by decide)⟩
theorem Lg.more {L M : Life} (h : Lg L M) (h1 : M.row ≠ []) (h2 : M.step ≠ 0) (h3 : lastR M ≠ 0) (hl : M.row.length < 12) : Lg L ⟨M.row ++ [lastR M * M.step], M.step⟩ := by
  refine ⟨fun x hx => ?_, h.stp, fun z => by simp at z, by show (M.row ++ [_]).length ≤ 12; simp; omega, fun _ z => absurd z h2, (short_more h1 h2 h3).trans h.sh⟩
  show Sz (16 + 4 * (M.row ++ [_]).length) x
  rw [List.length_append, List.length_singleton]
  rcases List.mem_append.mp hx with q | q
  · exact (h.row x q).up (by omega)
  · rw [List.mem_singleton.mp q]
    exact ((h.row _ (lastR_mem h1)).mul h.stp).up (by omega)
end Fp
namespace Fp
open PySem PySem.Spec L2 Dn
section
variable {W s m k : Nat} {L E : Life} {f : Feed}
end
end Fp
namespace Fp
open PySem PySem.Spec L2 Dn
section
variable {W s N m : Nat} {L : Life} {f : Feed} {w : List Nat}
theorem wc_gm (h : LOk W s L) : ∀ (w : List Nat), (∀ k ∈ w, 1 ≤ k ∧ k ≤ m) → G (kk W s m) w.length 0 (wc (cL L) w) := by
  intro w
  have go : ∀ (n : Nat) (w : List Nat), w.length = n → (∀ k ∈ w, 1 ≤ k ∧ k ≤ m) → G (kk W s m) w.length 0 (wc (cL L) w) := by
    intro n
    induction n with
    | zero =>
      intro w hw _
      rw [List.eq_nil_of_length_eq_zero hw]
      exact g_1
    | succ n ih =>
      intro w hw hk
      rcases List.eq_nil_or_concat w with rfl | ⟨v, k, rfl⟩
      · simp at hw
      · rw [List.concat_eq_append] at hw hk ⊢
        rw [wc_snoc, List.length_append]
        obtain ⟨a, b⟩ := hk k (by simp)
        rw [cL_at a]
        exact (ih v (by rw [List.length_append] at hw; simpa using hw) (fun k q => hk k (by simp [q]))).mul (h.gch (m := m) b)
  exact go _ w rfl
/-- a way to at most 8 -/
def W8 (w : List Nat) : Prop := w.sum ≤ 8 ∧ ∀ k ∈ w, 1 ≤ k
theorem W8.small (h : W8 w) : Small w := small_1 h.2 rfl (Nat.le_trans h.1 (by decide))
theorem len_le_sum : ∀ {w : List Nat}, (∀ k ∈ w, 1 ≤ k) → w.length ≤ w.sum
  | [], _ => Nat.le_refl _
  | a :: r, h => by
    rw [List.sum_cons, List.length_cons]
    have := h a List.mem_cons_self
    have := len_le_sum (w := r) fun k hk => h k (List.mem_cons_of_mem _ hk)
    omega
theorem W8.len (h : W8 w) : w.length ≤ 8 := Nat.le_trans (len_le_sum h.2) h.1
theorem W8.g (h : LOk W s L) (hw : W8 w) : G (kk W s 8) 8 0 (wc (cL L) w) := (wc_gm (m := 8) h w fun k hk => ⟨hw.2 k hk, Nat.le_trans (mem_le_sum hk) hw.1⟩).up hw.len (Nat.le_refl _)
end
end Fp
namespace Fp
open PySem PySem.Spec L2 Dn
def WayD (n : Nat) (d : PyData) : Prop := ∃ xs, d = .tuple xs ∧ ThL 3 (n * 5) 0 xs ∧ xs.length ≤ n
def QD (a n : Nat) (l : List PyData) : Prop := l.length ≤ a ∧ ∀ d ∈ l, WayD n d
theorem WayD.up {n m : Nat} {d : PyData} (h : WayD n d) (hm : n ≤ m) : WayD m d := by
  obtain ⟨xs, rfl, h1, h2⟩ := h
  exact ⟨xs, rfl, h1.up (Nat.le_refl _) (by omega) (Nat.le_refl _), by omega⟩
theorem QD.up {a b n m : Nat} {l : List PyData} (h : QD a n l) (ha : a ≤ b) (hm : n ≤ m) : QD b m l := ⟨by have := h.1; omega, fun d hd => (h.2 d hd).up hm⟩
theorem QD.app {a b n : Nat} {l k : List PyData} (h : QD a n l) (q : QD b n k) : QD (a + b) n (l ++ k) := ⟨by
  have := h.1
  have := q.1
  rw [List.length_append]
  omega, fun d hd => (List.mem_append.mp hd).elim (h.2 d) (q.2 d)⟩
theorem QD.th {a n : Nat} {l : List PyData} (h : QD a n l) : ThL 3 (a * (n * 5 + 1)) 1 l := by
  have := thL_of (f := id) (xs := l) (e := 3) (b := n * 5) (k := 1) fun d hd => by
    obtain ⟨xs, rfl, h1, _⟩ := h.2 d hd
    exact th_tuple h1
  rw [List.map_id] at this
  exact this.up (Nat.le_refl _) (Nat.mul_le_mul_right _ h.1) (Nat.le_refl _)
def paper4 (x y : Rat) (hs ss : List PyData) : PyData := .tuple [enc x, enc y, .tuple hs, .tuple ss]
def MixOk (a n : Nat) (d : PyData) : Prop := ∃ x y hs ss, d = paper4 x y hs ss ∧ Sz 340 x ∧ Sz 340 y ∧ QD a n hs ∧ QD a n ss
theorem paper4_th {e b k : Nat} {x y : Rat} {hs ss : List PyData} {c : Nat} (hx : Sz 340 x) (hy : Sz 340 y) (h : ThL 340 b 1 hs) (s : ThL 340 c 1 ss) : Th 340 (b + c + 1380) 3 (paper4 x y hs ss) := by
  have a1 := (th_enc hx).up (g := 340) (c := 684) (l := 2) (Nat.le_refl _) (by decide) (by decide)
  have a2 := (th_enc hy).up (g := 340) (c := 684) (l := 2) (Nat.le_refl _) (by decide) (by decide)
  exact (th_tuple (thL_cons a1 (thL_cons a2 (thL_cons (th_tuple h) (thL_one (th_tuple s)))))).up (Nat.le_refl _) (by omega) (by decide)
theorem MixOk.th {a n : Nat} {d : PyData} (h : MixOk a n d) : Th 340 (2 * (a * (n * 5 + 1)) + 1380) 3 d := by
  obtain ⟨x, y, hs, ss, rfl, hx, hy, h1, h2⟩ := h
  exact (paper4_th (e := 0) (b := a * (n * 5 + 1)) (k := 0) hx hy (h1.th.up (by decide) (Nat.le_refl _) (Nat.le_refl _)) (h2.th.up (by decide) (Nat.le_refl _) (Nat.le_refl _))).up (Nat.le_refl _) (by omega) (Nat.le_refl _)
end Fp
namespace Fp
open PySem PySem.Spec L2 Dn
def isc : PyData → Bool
  | .tuple [.int p, .int q] => isr2 (.int p) (.int q) && decide (0 ≤ p ∧ p ≤ q)
  | _ => false
theorem isc_of {x : Rat} : isc (enc x) = decide (0 ≤ x ∧ x ≤ 1) := by
  have h1 : 0 ≤ x.num ↔ 0 ≤ x := Rat.num_nonneg
  have h2 : x.num ≤ (x.den : Int) ↔ x ≤ 1 := by
    rw [Rat.le_iff]
    simp
  have r : isr2 (.int x.num) (.int (x.den : Nat)) = true := by
    simp only [isr2, decide_eq_true_eq]
    exact ⟨by have := x.den_pos; omega, x.reduced⟩
  show (isr2 (.int x.num) (.int (x.den : Nat)) && decide (0 ≤ x.num ∧ x.num ≤ (x.den : Int))) = _
  rw [r, Bool.true_and, decide_eq_decide, h1, h2]
theorem isc_isr {d : PyData} (h : isr d = false) : isc d = false := by
  unfold isc
  split
  · rename_i p q
    have : isr2 (.int p) (.int q) = false := h
    rw [this]
    rfl
  · rfl
section
variable {e b k : Nat} {d : PyData} {f : Feed}
theorem is_chance_any (hd : Th e b k d) : F_is_chance [.dat d] f = .ok (.dat (.bool (isc d))) f := by
  have r := fun g => is_ratio_any (f := g) hd
  apply ev_is
  rw [u_is_chance, ev_dEnd]
  unfold S_is_chance
  cases h : isr d with
  | false => simp [r, h, isc_isr h]
  | true =>
    obtain ⟨x, rfl⟩ := isr_enc h
    have i0 : oIx (enc x) (.int 0) = some (.dat (.int x.num)) := rfl
    have i1 : oIx (enc x) (.int 1) = some (.dat (.int (x.den : Nat))) := rfl
    have h1 : 0 ≤ x.num ↔ 0 ≤ x := Rat.num_nonneg
    have h2 : x.num ≤ (x.den : Int) ↔ x ≤ 1 := by
      rw [Rat.le_iff]
      simp
    have is : isc (enc x) = decide (0 ≤ x.num ∧ x.num ≤ (x.den : Int)) := by
      rw [isc_of]
      exact decide_eq_decide.mpr (and_congr h1 h2).symm
    generalize enc x = ex at *
    by_cases c1 : 0 ≤ x.num
    · by_cases c2 : x.num ≤ (x.den : Int) <;> simp [r, h, i0, i1, is, c1, c2]
    · simp [r, h, i0, i1, is, c1]
end
def bn (x : Rat) : Nat := siz (.int (x.den : Nat))
theorem sz_bn {x : Rat} (h0 : 0 ≤ x) (h1 : x ≤ 1) : Sz (bn x) x := by
  have d := int_siz (i := ((x.den : Nat) : Int)) (b := bn x) (Nat.le_refl _)
  rw [Int.natAbs_natCast] at d
  have h2 : x.num ≤ (x.den : Int) := by
    have := h1
    rw [Rat.le_iff] at this
    simpa using this
  have h3 := Rat.num_nonneg.mpr h0
  exact ⟨by omega, d⟩
def rowB (vs : List Rat) : Nat := (vs.map fun x => bn x + 1).sum
theorem rowB_cons (x : Rat) (vs : List Rat) : rowB (x :: vs) = bn x + 1 + rowB vs := by
  unfold rowB
  rw [List.map_cons, List.sum_cons]
theorem rowB_mem {vs : List Rat} {x : Rat} (h : x ∈ vs) : bn x ≤ rowB vs := by
  induction vs with
  | nil => simp at h
  | cons y r ih =>
    rw [rowB_cons]
    rcases List.mem_cons.mp h with rfl | h
    · omega
    · have := ih h
      omega
section
variable {f : Feed} {vs : List Rat} {x : Rat}
theorem sum_stp {x y : Rat} (hx : Sz 4000 x) (hy : Sz 4000 y) (d0 s2 : Slot) (g : Feed) : sSet 1 (cCall F_q_low [cBin oAdd (cBin oMul (cBin oIx (cVar 1) (cC (.int 0))) (cBin oIx (cVar 2) (cC (.int 1)))) (cBin oMul (cBin oIx (cVar 2) (cC (.int 0))) (cBin oIx (cVar 1) (cC (.int 1)))), cBin oMul (cBin oIx (cVar 1) (cC (.int 1))) (cBin oIx (cVar 2) (cC (.int 1)))]) [d0, .dat (enc x), .dat (enc y)] g = .ok (.nx [d0, .dat (enc (x + y)), .dat (enc y)]) g := by
  have m1 := m_nd hx hy (Nat.le_refl _)
  have m2 := m_nd hy hx (Nat.le_refl _)
  have m4 : oMul (.int (x.den : Nat)) (.int (y.den : Nat)) = some (.dat (.int ((x.den * y.den : Nat) : Int))) := by
    rw [Int.natCast_mul]
    exact m_dd hx hy (Nat.le_refl _)
  have lw : F_q_low [.dat (.int (x.num * y.den + y.num * x.den)), .dat (.int ((x.den * y.den : Nat) : Int))] g = .ok (.dat (enc (x + y))) g := by
    rw [q_low_q (Nat.mul_pos x.den_pos y.den_pos) (Nat.lt_of_lt_of_le (prod_lt hx.den hy.den (Nat.le_refl _)) (by decide)), add_eq]
  simp [-Int.natCast_mul, ix_0, ix_1, m1, m2, m4, lw]
theorem q_sum_any {B : Nat} (h : ∀ x ∈ vs, 0 ≤ x ∧ x ≤ 1) (hB : rowB vs + 1 ≤ B) (hB2 : B ≤ 4000) (hl : vs.length ≤ 99999) : F_q_sum [.dat (.tuple (vs.map enc))] f = .ok (.dat (enc vs.sum)) f ∧ Sz B vs.sum := by
  have key : Ev (forN (.one 2) (sSet 1 (cCall F_q_low [cBin oAdd (cBin oMul (cBin oIx (cVar 1) (cC (.int 0))) (cBin oIx (cVar 2) (cC (.int 1)))) (cBin oMul (cBin oIx (cVar 2) (cC (.int 0))) (cBin oIx (cVar 1) (cC (.int 1)))), cBin oMul (cBin oIx (cVar 1) (cC (.int 1))) (cBin oIx (cVar 2) (cC (.int 1)))])) (vs.map enc) [.dat (.tuple (vs.map enc)), .dat (enc 0), .emp] f) (fun c g => g = f ∧ ∃ s2 : Slot, c = .nx [.dat (.tuple (vs.map enc)), .dat (enc vs.sum), s2] ∧ Sz B vs.sum) := by
    obtain ⟨D, hD⟩ : ∃ D, D = PyData.tuple (vs.map enc) := ⟨_, rfl⟩
    rw [← hD]
    refine ev_forL (I := fun ds ρ g => g = f ∧ ∃ (ws : List Rat) (acc : Rat) (m : Nat) (s2 : Slot), ds = ws.map enc ∧ (∀ x ∈ ws, 0 ≤ x ∧ x ≤ 1) ∧ ρ = [.dat D, .dat (enc acc), s2] ∧ Sz m acc ∧ m + rowB ws ≤ B ∧ acc + ws.sum = vs.sum) ?_ ?_ _ _ _ ⟨rfl, vs, 0, 1, .emp, rfl, h, rfl, ⟨by decide, by decide⟩, by omega, Rat.zero_add _⟩
    · rintro d ds ρ g ⟨rfl, ws, acc, m, s2, e, hw, rfl, hs, hm, ha⟩
      cases ws with
      | nil => simp at e
      | cons x ws =>
        rw [List.map_cons] at e
        obtain ⟨rfl, rfl⟩ := List.cons.inj e
        refine ⟨_, rfl, ?_⟩
        obtain ⟨x0, x1⟩ := hw x List.mem_cons_self
        rw [rowB_cons] at hm
        have sx := sz_bn x0 x1
        have st := fun g => sum_stp (hs.up (show m ≤ 4000 by omega)) (sx.up (show bn x ≤ 4000 by omega)) (.dat D) s2 g
        show Ev (sSet 1 _ [.dat D, .dat (enc acc), .dat (enc x)] g) _
        rw [st g, ev_ok, loopP_nx]
        exact ⟨rfl, ws, acc + x, m + bn x + 1, _, rfl, fun y hy => hw y (List.mem_cons_of_mem _ hy), rfl, sz_add2 hs sx, by omega, by rw [← ha, List.sum_cons, Rat.add_assoc]⟩
    · rintro ρ g ⟨rfl, ws, acc, m, s2, e, hw, rfl, hs, hm, ha⟩
      obtain rfl : ws = [] := List.map_eq_nil_iff.mp e.symm
      rw [List.sum_nil, Rat.add_zero] at ha
      rw [← ha]
      exact ⟨rfl, s2, rfl, hs.up (by omega)⟩
  obtain ⟨c, g, e, rfl, s2, rfl, hs⟩ := key
  refine ⟨?_, hs⟩
  have z : PyData.tuple [.int 0, .int 1] = enc 0 := rfl
  have ll : (vs.map enc).length ≤ 99999 := by rw [List.length_map]; exact hl
  generalize vs.map enc = V at *
  apply ev_is
  rw [u_q_sum, ev_dEnd]
  unfold S_q_sum
  (rw [e_seq, ev_bind]; simp [-e_seq])
  simp [-e_set, z, ll, e]
theorem summed_any {B : Nat} (h : ∀ x ∈ vs, 0 ≤ x ∧ x ≤ 1) (hB : rowB vs + 1 ≤ B) (hB2 : B ≤ 4000) (hl : vs.length ≤ 99999) : F_summed [.dat (.tuple (vs.map enc))] f = .ok (.dat (enc vs.sum)) f := by
  have key : Ev (forN (.one 2) (sSet 1 (cCall F_plus [cVar 1, cVar 2])) (vs.map enc) [.dat (.tuple (vs.map enc)), .dat (enc 0), .emp] f) (fun c g => g = f ∧ ∃ s2 : Slot, c = .nx [.dat (.tuple (vs.map enc)), .dat (enc vs.sum), s2]) := by
    obtain ⟨D, hD⟩ : ∃ D, D = PyData.tuple (vs.map enc) := ⟨_, rfl⟩
    rw [← hD]
    refine ev_forL (I := fun ds ρ g => g = f ∧ ∃ (ws : List Rat) (acc : Rat) (m : Nat) (s2 : Slot), ds = ws.map enc ∧ (∀ x ∈ ws, 0 ≤ x ∧ x ≤ 1) ∧ ρ = [.dat D, .dat (enc acc), s2] ∧ Sz m acc ∧ m + rowB ws ≤ B ∧ acc + ws.sum = vs.sum) ?_ ?_ _ _ _ ⟨rfl, vs, 0, 1, .emp, rfl, h, rfl, ⟨by decide, by decide⟩, by omega, Rat.zero_add _⟩
    · rintro d ds ρ g ⟨rfl, ws, acc, m, s2, e, hw, rfl, hs, hm, ha⟩
      cases ws with
      | nil => simp at e
      | cons x ws =>
        rw [List.map_cons] at e
        obtain ⟨rfl, rfl⟩ := List.cons.inj e
        refine ⟨_, rfl, ?_⟩
        obtain ⟨x0, x1⟩ := hw x List.mem_cons_self
        rw [rowB_cons] at hm
        have sx := sz_bn x0 x1
        have p := fun g => plus_q (f := g) (hs.up (show m ≤ 4000 by omega)) (sx.up (show bn x ≤ 4000 by omega)) (Nat.le_refl _)
        have st : ∀ g, sSet 1 (cCall F_plus [cVar 1, cVar 2]) [.dat D, .dat (enc acc), .dat (enc x)] g = .ok (.nx [.dat D, .dat (enc (acc + x)), .dat (enc x)]) g := fun g => by simp [p]
        show Ev (sSet 1 _ [.dat D, .dat (enc acc), .dat (enc x)] g) _
        rw [st g, ev_ok, loopP_nx]
        exact ⟨rfl, ws, acc + x, m + bn x + 1, _, rfl, fun y hy => hw y (List.mem_cons_of_mem _ hy), rfl, sz_add2 hs sx, by omega, by rw [← ha, List.sum_cons, Rat.add_assoc]⟩
    · rintro ρ g ⟨rfl, ws, acc, m, s2, e, hw, rfl, hs, hm, ha⟩
      obtain rfl : ws = [] := List.map_eq_nil_iff.mp e.symm
      rw [List.sum_nil, Rat.add_zero] at ha
      rw [← ha]
      exact ⟨rfl, s2, rfl⟩
  obtain ⟨c, g, e, rfl, s2, rfl⟩ := key
  have z : PyData.tuple [.int 0, .int 1] = enc 0 := rfl
  have zz : d_NOUGHT = enc 0 := rfl
  have ll : (vs.map enc).length ≤ 99999 := by rw [List.length_map]; exact hl
  generalize vs.map enc = V at *
  apply ev_is
  rw [u_summed, ev_dEnd]
  unfold S_summed
  (rw [e_seq, ev_bind]; simp [-e_seq])
  simp [-e_set, z, zz, ll, e]
def wholeV (vs : List Rat) (x : Rat) : Rat := vs.sum + vs.getLastD 0 * x / (1 - x)
theorem last_mem {vs : List Rat} (h : vs ≠ []) : vs.getLastD 0 ∈ vs := by
  rw [List.getLastD_eq_getLast?, List.getLast?_eq_some_getLast h]
  exact List.getLast_mem h
theorem last_at (h : vs ≠ []) : atI (vs.map enc) (-1) = some (enc (vs.getLastD 0)) := by
  obtain ⟨ys, y, rfl⟩ : ∃ ys y, vs = ys ++ [y] := ⟨vs.dropLast, vs.getLast h, (List.dropLast_concat_getLast _).symm⟩
  rw [List.map_append, List.map_cons, List.map_nil, L2.atI_last]
  simp
def lifeP (vs : List Rat) (x : Rat) : PyData := .tuple [.tuple (vs.map enc), enc x]
theorem sub_sz {x : Rat} (h0 : 0 ≤ x) (h1 : x ≤ 1) : Sz (bn x) (1 - x) := by
  have hs := sz_bn h0 h1
  have e : (1 - x).den ≤ x.den := by
    have e1 : 1 - x = mkRat ((1 : Rat).num * (x.den : Int) - x.num * ((1 : Rat).den : Int)) ((1 : Rat).den * x.den) := Rat.sub_def' 1 x
    have e2 : (1 : Rat).den * x.den = x.den := Nat.one_mul _
    rw [e1, e2]
    exact (low_num x.den_pos).2
  have d : (1 - x).den < 2 ^ bn x := Nat.lt_of_le_of_lt e hs.den
  have a0 : 0 ≤ 1 - x := by grind
  have a1 : 1 - x ≤ 1 := by grind
  have h2 : (1 - x).num ≤ ((1 - x).den : Int) := by
    have := a1
    rw [Rat.le_iff] at this
    simpa using this
  have h3 := Rat.num_nonneg.mpr a0
  exact ⟨by omega, d⟩
theorem chances_added_any (h : ∀ x ∈ vs, 0 ≤ x ∧ x ≤ 1) (hv : vs ≠ []) (x0 : 0 ≤ x) (x1 : x < 1) (hl : vs.length ≤ 99999) (hB : 2 * rowB vs + 2 * bn x + 20 ≤ 4000) :
    F_chances_added [.dat (lifeP vs x)] f = .ok (.dat (enc (wholeV vs x))) f ∧ Sz 4000 (wholeV vs x) := by
  have lm := last_mem hv
  have lb := rowB_mem lm
  obtain ⟨l0, l1⟩ := h _ lm
  have sm := fun g => summed_any (f := g) (B := rowB vs + 1) h (Nat.le_refl _) (by omega) hl
  have ss := (q_sum_any (f := f) (B := rowB vs + 1) h (Nat.le_refl _) (by omega) hl).2
  have sl := sz_bn l0 l1
  have sx := sz_bn x0 (Rat.le_of_lt x1)
  have sy := sub_sz x0 (Rat.le_of_lt x1)
  have la := last_at hv
  have t1 := fun g => times_q (f := g) (sl.up (show bn (vs.getLastD 0) ≤ 4000 by omega)) (sx.up (show bn x ≤ 4000 by omega)) (Nat.le_refl _)
  have t2 := fun g => minus_q (f := g) sz_1 (sx.up (show bn x ≤ 4000 by omega))
  have p0 : 0 < 1 - x := by grind
  have slx := sl.mul sx
  have t3 := fun g => over_q (f := g) (slx.up (show bn (vs.getLastD 0) + bn x ≤ 4000 by omega)) (sy.up (show bn x ≤ 4000 by omega)) p0
  have sd := sz_div slx sy p0
  have t4 := fun g => plus_q (f := g) (ss.up (show rowB vs + 1 ≤ 4000 by omega)) (sd.up (show bn (vs.getLastD 0) + bn x + bn x ≤ 4000 by omega)) (Nat.le_refl _)
  have sw := sz_add2 ss sd
  have on : d_ONE = enc 1 := rfl
  have no : d_NOUGHT = enc 0 := rfl
  refine ⟨?_, sw.up (by omega)⟩
  unfold lifeP wholeV
  generalize vs.getLastD 0 = lv at *
  generalize vs.map enc = V at *
  apply ev_is
  rw [u_chances_added, ev_dEnd]
  unfold S_chances_added
  rw [on, no]
  by_cases c : x = 0
  · have e : vs.sum + lv * x / (1 - x) = vs.sum := by
      rw [c]
      grind
    rw [e]
    simp [Tgt.put, setAll, sm, eq_enc, c]
  · simp [Tgt.put, setAll, sm, eq_enc, c, la, t1, t2, t3, t4]
end
end Fp
namespace Fp
open PySem PySem.Spec L2 Dn
section
variable {e b k : Nat} {d : PyData} {f : Feed} {vs : List Rat} {x : Rat}
end
end Fp
namespace Fp
open PySem PySem.Spec L2 Dn
/-- the signs of a text -/
abbrev cd (w : Str) : List Nat := w.cps.toList
theorem cd_inj {a b : Str} (h : cd a = cd b) : a = b := by
  obtain ⟨⟨x⟩⟩ := a
  obtain ⟨⟨y⟩⟩ := b
  have : x = y := h
  rw [this]
theorem cd_len (w : Str) : w.length = (cd w).length := (Array.length_toList).symm
/-- a whole number as a text -/
abbrev nT (n : Nat) : Str := Str.ofString (toString ((n : Nat) : Int))
theorem cd_nT (n : Nat) : cd (nT n) = TL.numL n := TL.tl_num n
def isDig (c : Nat) : Bool := decide (48 ≤ c) && decide (c ≤ 57)
theorem fig_in (c : Nat) : decide (c ∈ cd (Str.ofString "0123456789")) = isDig c := by
  have e : cd (Str.ofString "0123456789") = [48, 49, 50, 51, 52, 53, 54, 55, 56, 57] := by decide +kernel
  rw [e]
  unfold isDig
  rw [Bool.eq_iff_iff]
  simp
  omega
/-- what a word of figures looks like -/
def okW (l : List Nat) : Bool := decide (1 ≤ l.length) && decide (l.length ≤ 3) && l.all isDig && !(decide (l.head? = some 48) && decide (l ≠ [48]))
def numW (w : Str) : Option Nat := if okW (cd w) = true then some (NumText.digitsVal (cd w)) else none
def optN : Option Nat → PyData
  | none => .none
  | some n => .int (n : Nat)
theorem sg_in (c : Nat) : oInSg false (.str ⟨#[c]⟩) (.str (Str.ofString "0123456789")) = some (.dat (.bool (isDig c))) := by
  show some (RV.dat (.bool (false ^^ decide (c ∈ cd (Str.ofString "0123456789"))))) = _
  rw [fig_in, Bool.false_xor]
theorem all_bools {α : Type} (l : List α) (p : α → Bool) : oAll (.list (l.map fun x => .bool (p x))) = some (.dat (.bool (l.all p))) := by
  have := oAll_bools (ns := l.map p)
  rw [List.map_map] at this
  refine this.trans ?_
  rw [List.all_map]
  rfl
theorem cd_zero : cd (Str.ofString "0") = [48] := by decide +kernel
theorem sign0 (c : Nat) : decide ((⟨#[c]⟩ : Str) = Str.ofString "0") = decide (c = 48) := by
  rw [decide_eq_decide]
  constructor
  · intro h
    have : [c] = [48] := (congrArg cd h).trans cd_zero
    simpa using this
  · intro h
    refine cd_inj ?_
    rw [cd_zero, h]
theorem word0 (w : Str) : decide (w = Str.ofString "0") = decide (cd w = [48]) := by
  rw [decide_eq_decide]
  exact ⟨fun h => by rw [h, cd_zero], fun h => cd_inj (by rw [cd_zero, h])⟩
theorem digs_all {l : List Nat} (h : l.all isDig = true) : NumText.AllDigits l := fun c hc => by
  have := List.all_eq_true.mp h c hc
  unfold isDig at this
  rw [Bool.and_eq_true, decide_eq_true_eq, decide_eq_true_eq] at this
  exact this
section
variable {w : Str} {f : Feed}
theorem number_in_q (hl : w.length ≤ 100000) : F_number_in [.dat (.str w)] f = .ok (.dat (optN (numW w))) f := by
  have hc := cd_len w
  have lc : ∀ s1 : Slot, lcN (.one 1) cYes (cBin (oInSg false) (cVar 1) (cC d_FIGURES)) [.dat (.str w), s1] (signsD w) [] f = .ok ((cd w).map fun c => .bool (isDig c)) f := fun s1 => by
    refine lc_map (by show (cd w).length ≤ _; omega) fun c hc => ⟨_, rfl, ?_⟩
    simp [sg_in]
  have al := all_bools (cd w) isDig
  have ix : oIx (.str w) (.int 0) = if w.length ≤ 100000 then (atI (cd w) 0).map fun c => .dat (.str ⟨#[c]⟩) else none := rfl
  rw [if_pos hl] at ix
  apply ev_is
  rw [u_number_in, ev_dEnd]
  unfold S_number_in
  by_cases h1 : 1 ≤ (cd w).length ∧ (cd w).length ≤ 3
  · have i1 : (1 : Int) ≤ (w.length : Int) := by omega
    have i2 : (w.length : Int) ≤ 3 := by omega
    cases h2 : (cd w).all isDig with
    | false =>
      have e : numW w = none := by
        unfold numW okW
        rw [h2]
        simp
      rw [h2] at al
      generalize (cd w).map (fun c => PyData.bool (isDig c)) = B at *
      simp [hl, i1, i2, lc, al, e, optN]
    | true =>
      rw [h2] at al
      obtain ⟨c, r, hw⟩ : ∃ c r, cd w = c :: r := by
        cases q : cd w with
        | nil => rw [q] at h1; simp at h1
        | cons c r => exact ⟨c, r, rfl⟩
      have a0 : atI (cd w) 0 = some c := by
        rw [hw]
        simp
      rw [a0] at ix
      have ix : oIx (.str w) (.int 0) = some (.dat (.str ⟨#[c]⟩)) := ix
      have z1 := sign0 c
      have z2 := word0 w
      have iT := NumText.digitsVal (cd w)
      have it : oIntS (.str w) = some (.dat (.int (NumText.digitsVal (cd w) : Nat))) := by
        show (if w.length ≤ 640 then (PySem.intText? w).map fun n => RV.dat (.int n) else none) = _
        rw [if_pos (by omega), PySem.intText_digits (digs_all h2) (by show cd w ≠ []; rw [hw]; simp) (by omega)]
        rfl
      by_cases h3 : c = 48 ∧ cd w ≠ [48]
      · have e : numW w = none := by
          unfold numW okW
          rw [hw] at h3 ⊢
          simp [h3.1, h3.2]
          intro _ _ _ q
          exact h3.2 (by rw [q, h3.1])
        rw [decide_eq_true h3.1] at z1
        rw [decide_eq_false h3.2] at z2
        rw [decide_eq_true_eq] at z1
        rw [decide_eq_false_iff_not] at z2
        generalize (cd w).map (fun c => PyData.bool (isDig c)) = B at *
        simp [hl, i1, i2, lc, al, ix, z1, z2, e, optN]
      · have e : numW w = some (NumText.digitsVal (cd w)) := by
          unfold numW
          rw [if_pos]
          unfold okW
          rw [h2, decide_eq_true h1.1, decide_eq_true h1.2]
          simp only [Bool.and_self, Bool.true_and, Bool.not_eq_true', Bool.and_eq_false_iff, decide_eq_false_iff_not]
          by_cases q : c = 48
          · right
            intro z
            exact h3 ⟨q, z⟩
          · left
            rw [hw]
            simpa using q
        rw [e]
        generalize (cd w).map (fun c => PyData.bool (isDig c)) = B at *
        by_cases q : c = 48
        · have z : cd w = [48] := Classical.byContradiction fun z => h3 ⟨q, z⟩
          rw [decide_eq_true q] at z1
          rw [decide_eq_true z] at z2
          rw [decide_eq_true_eq] at z1 z2
          generalize NumText.digitsVal (cd w) = n at *
          subst z2
          simp [hl, i1, i2, lc, al, ix, z1, it, optN]
        · rw [decide_eq_false q] at z1
          rw [decide_eq_false_iff_not] at z1
          generalize NumText.digitsVal (cd w) = n at *
          simp [hl, i1, i2, lc, al, ix, z1, it, optN]
  · have e : numW w = none := by
      unfold numW okW
      rw [if_neg]
      intro q
      simp only [Bool.and_eq_true, decide_eq_true_eq] at q
      exact h1 q.1.1
    rw [e]
    by_cases i1 : (1 : Int) ≤ (w.length : Int)
    · have i2 : ¬ (w.length : Int) ≤ 3 := by omega
      simp [hl, i1, i2, optN]
    · simp [hl, i1, optN]
end
end Fp
namespace Fp
open PySem PySem.Spec L2 Dn
theorem numW_lt {w : Str} {n : Nat} (h : numW w = some n) : n < 1000 := by
  unfold numW at h
  by_cases c : okW (cd w) = true
  · rw [if_pos c] at h
    have h : NumText.digitsVal (cd w) = n := Option.some.inj h
    unfold okW at c
    simp only [Bool.and_eq_true, decide_eq_true_eq] at c
    have d := digs_all c.1.2
    rw [← h]
    match q : cd w, c.1.1.1, c.1.1.2 with
    | [x], _, _ =>
      rw [q] at d
      have := d x (by simp)
      show 0 * 10 + (x - 48) < 1000
      omega
    | [x, y], _, _ =>
      rw [q] at d
      have := d x (by simp)
      have := d y (by simp)
      show (0 * 10 + (x - 48)) * 10 + (y - 48) < 1000
      omega
    | [x, y, z], _, _ =>
      rw [q] at d
      have := d x (by simp)
      have := d y (by simp)
      have := d z (by simp)
      show ((0 * 10 + (x - 48)) * 10 + (y - 48)) * 10 + (z - 48) < 1000
      omega
  · rw [if_neg c] at h
    cases h
/-- the chance that the numbers of a word make -/
def chN : List (Option Nat) → Option Rat
  | [some n] => if n < 2 then some (n : Rat) else none
  | [some a, some b] => if 0 < a ∧ a < b ∧ Nat.gcd a b = 1 then some (mkRat a b) else none
  | _ => none
def slash : Str := Str.ofString "/"
def chW (w : Str) : Option Rat := chN ((Txt.split w slash).map numW)
def optQ : Option Rat → PyData
  | none => .none
  | some x => enc x
theorem slash_is : slash = ⟨#[47]⟩ := cd_inj (by unfold slash; decide +kernel)
theorem cnt_nn (c : Nat) : ∀ l : List Nat, 0 ≤ PyProof.Rows.cnt c l
  | [] => by rw [PyProof.Rows.cnt_nil]; exact Int.le_refl _
  | n :: r => by
    have := cnt_nn c r
    rw [PyProof.Rows.cnt_cons]
    split <;> omega
theorem split_n (w : Str) : 1 ≤ (Txt.split w slash).length ∧ (Txt.split w slash).length ≤ w.length + 2 := by
  have h := PyProof.Rows.split_len w 47
  rw [← slash_is] at h
  have := cnt_nn 47 w.cps.toList
  exact ⟨by omega, PyProof.Rows.split_le w slash⟩
theorem joinL_mem {S : List Nat} : ∀ {ps : List (List Nat)} {p : List Nat}, p ∈ ps → p.length ≤ (TL.joinL S ps).length
  | [q], p, h => by
    rw [List.mem_singleton.mp h]
    exact Nat.le_refl _
  | q :: r :: ps, p, h => by
    show p.length ≤ (q ++ (S ++ TL.joinL S (r :: ps))).length
    rw [List.length_append, List.length_append]
    rcases List.mem_cons.mp h with rfl | h
    · omega
    · have := joinL_mem (S := S) h
      omega
theorem split_mem {w y p : Str} (h : p ∈ Txt.split w y) : p.length ≤ w.length := by
  have e := PySem.StrLaws.join_split w y
  have e2 := TL.tl_join y (Txt.split w y)
  rw [e] at e2
  have := joinL_mem (S := TL.tl y) (List.mem_map_of_mem (f := TL.tl) h)
  rw [← e2] at this
  rw [cd_len, cd_len w]
  exact this
theorem any_none {l : List (Option Nat)} : (l.map optN).any (fun y => PyData.eqv y .none) = l.any (fun o => o.isNone) := by
  rw [List.any_map]
  congr 1
  funext o
  cases o <;> rfl
theorem flat_opt {l : List (Option Nat)} : (l.map optN).all flatD = true := List.all_eq_true.mpr fun d hd => by
  obtain ⟨o, _, rfl⟩ := List.mem_map.mp hd
  cases o <;> rfl
theorem enc_nat (n : Nat) : enc (n : Rat) = .tuple [.int (n : Nat), .int 1] := by
  unfold enc
  simp
theorem enc_low {a b : Nat} (hb : 0 < b) (h : Nat.gcd a b = 1) : enc (mkRat a b) = .tuple [.int (a : Nat), .int (b : Nat)] := by
  have c : Nat.Coprime ((a : Nat) : Int).natAbs b := by
    rw [Int.natAbs_natCast]
    exact h
  have e : mkRat a b = (⟨a, b, by omega, c⟩ : Rat) := Rat.mkRat_self ⟨a, b, by omega, c⟩
  rw [e]
  rfl
section
variable {w : Str} {f : Feed}
theorem chance_in_q (hl : w.length ≤ 90000) : F_chance_in [.dat (.str w)] f = .ok (.dat (optQ (chW w))) f := by
  obtain ⟨n1, n2⟩ := split_n w
  have lc : ∀ s1 s2 s3 s4 : Slot, lcN (.one 4) cYes (cCall F_number_in [cVar 4]) [.dat (.str w), s1, s2, s3, s4] ((Txt.split w slash).map .str) [] f = .ok (((Txt.split w slash).map numW).map optN) f := fun s1 s2 s3 s4 => by
    rw [List.map_map]
    refine lc_map (by omega) fun p hp => ⟨_, rfl, ?_⟩
    have := number_in_q (w := p) (f := f) (by have := split_mem hp; omega)
    simp [this]
  have sp : oSplit (.str w) (.str (Str.ofString "/")) = some (.own ((Txt.split w slash).map .str)) := by
    rw [oSplit_str, if_pos ⟨by decide +kernel, by omega⟩]
    rfl
  obtain ⟨M, eM⟩ : ∃ M, M = (Txt.split w slash).map numW := ⟨_, rfl⟩
  have lM : M.length = (Txt.split w slash).length := by rw [eM, List.length_map]
  have lt : ∀ n, some n ∈ M → n < 1000 := fun n hn => by
    rw [eM] at hn
    obtain ⟨p, _, hp⟩ := List.mem_map.mp hn
    exact numW_lt hp
  have inn : oInF false .none (.list (M.map optN)) = some (.dat (.bool (M.any fun o => o.isNone))) := by
    unfold oInF
    simp only [seqOf]
    rw [flat_opt]
    simp only [flatD, Bool.and_self, if_true]
    rw [if_neg (by decide), any_none]
  have eC : chW w = chN M := by rw [eM]; rfl
  rw [← eM] at lc
  rw [eC]
  clear eM eC
  apply ev_is
  rw [u_chance_in, ev_dEnd]
  unfold S_chance_in
  generalize (Txt.split w slash).map PyData.str = SP at *
  cases hn : M.any fun o => o.isNone with
  | true =>
    have e : chN M = none := by
      match M, hn with
      | [none], _ => rfl
      | [some a], h => simp at h
      | [some a, some b], h => simp at h
      | [none, some b], h => rfl
      | [some a, none], h => rfl
      | [none, none], h => rfl
      | x :: y :: _ :: _, h => cases x <;> cases y <;> rfl
    rw [hn] at inn
    rw [e]
    generalize M.map optN = L at *
    simp [-oSplit_str, sp, lc, inn, optQ]
  | false =>
    rw [hn] at inn
    match M, lM, hn, lt, inn, lc with
    | [some n], _, _, _, inn, lc =>
      by_cases c : n < 2
      · have ci : (n : Int) < 2 := by omega
        have e := enc_nat n
        simp only [List.map_cons, List.map_nil, optN] at lc inn
        simp [-oSplit_str, sp, lc, inn, ci, chN, c, optQ, e]
      · have ci : ¬ (n : Int) < 2 := by omega
        simp only [List.map_cons, List.map_nil, optN] at lc inn
        simp [-oSplit_str, sp, lc, inn, ci, chN, c, optQ]
    | [some a, some b], _, _, lt, inn, lc =>
      have ha := lt a (by simp)
      have hb := lt b (by simp)
      have ir := is_ratio_any (f := f) (d := .tuple [.int (a : Nat), .int (b : Nat)]) (e := 10) (th_tuple (thL_cons (th_int (e := 10) (by rw [Int.natAbs_natCast]; omega)) (thL_one (th_int (e := 10) (by rw [Int.natAbs_natCast]; omega)))))
      simp only [List.map_cons, List.map_nil, optN] at lc inn
      by_cases c : 0 < a ∧ a < b
      · have c1 : (0 : Int) < (a : Int) := by omega
        have c2 : (a : Int) < (b : Int) := by omega
        by_cases g : Nat.gcd a b = 1
        · have r : isr (.tuple [.int (a : Nat), .int (b : Nat)]) = true := by
            show decide ((0 : Int) < (b : Nat) ∧ Nat.gcd ((a : Nat) : Int).natAbs ((b : Nat) : Int).natAbs = 1) = true
            rw [Int.natAbs_natCast, Int.natAbs_natCast]
            exact decide_eq_true ⟨by omega, g⟩
          rw [r] at ir
          have e := enc_low (a := a) (b := b) (by omega) g
          simp [-oSplit_str, sp, lc, inn, c1, c2, ir, chN, c, g, optQ, e]
        · have r : isr (.tuple [.int (a : Nat), .int (b : Nat)]) = false := by
            show decide ((0 : Int) < (b : Nat) ∧ Nat.gcd ((a : Nat) : Int).natAbs ((b : Nat) : Int).natAbs = 1) = false
            rw [Int.natAbs_natCast, Int.natAbs_natCast]
            exact decide_eq_false fun z => g z.2
          rw [r] at ir
          simp [-oSplit_str, sp, lc, inn, c1, c2, ir, chN, c, g, optQ]
      · by_cases c1 : 0 < a
        · have i1 : (0 : Int) < (a : Int) := by omega
          have i2 : ¬ (a : Int) < (b : Int) := by omega
          have n2 : ¬ a < b := by omega
          simp [-oSplit_str, sp, lc, inn, i1, i2, c1, chN, n2, optQ]
        · have i1 : ¬ (0 : Int) < (a : Int) := by omega
          simp [-oSplit_str, sp, lc, inn, i1, chN, c1, optQ]
    | x :: y :: z :: r, _, _, _, inn, lc =>
      have gt : (2 : Int) < ((x :: y :: z :: r).map optN).length := by
        simp
        omega
      have e : chN (x :: y :: z :: r) = none := by cases x <;> cases y <;> rfl
      rw [e]
      generalize (x :: y :: z :: r).map optN = L at *
      simp [-oSplit_str, sp, lc, inn, gt, optQ]
    | [], l0, _, _, _, _ => simp at l0; omega
end
end Fp
namespace Fp
open PySem PySem.Spec L2 Dn
def sokk (x : Str) : Prop := ∀ c ∈ x.cps.toList, c < 0x110000
theorem sokk_str {x : Str} (h : sokk x) : PyData.strOk x = true := by
  unfold PyData.strOk
  rw [Array.all_eq_true_iff_forall_mem]
  intro c hc
  exact decide_eq_true (h c (Array.mem_toList_iff.mpr hc))
theorem sokk_app {x y : Str} (h : sokk x) (h2 : sokk y) : sokk (x ++ y) := fun c hc => (PyProof.Rows.mem_cps_append.mp hc).elim (h c) (h2 c)
theorem sokk_of (s : String) : sokk (Str.ofString s) := fun c hc => by
  rw [PyProof.Rows.signs_ofString] at hc
  obtain ⟨ch, _, rfl⟩ := List.mem_map.mp hc
  have := ch.valid
  rcases this with h | ⟨_, h⟩
  · have h2 : ch.val.toNat < 0xd800 := h
    show ch.val.toNat < _
    omega
  · exact h
theorem sokk_join : ∀ ts : List Str, (∀ t ∈ ts, sokk t) → sokk (Str.join ", " ts)
  | [], _ => sokk_of ""
  | [x], h => h x List.mem_cons_self
  | x :: y :: r, h => by
    have ih := sokk_join (y :: r) fun t ht => h t (List.mem_cons_of_mem _ ht)
    exact sokk_app (sokk_app (h x List.mem_cons_self) (sokk_of ", ")) ih
theorem sokk_from : ∀ (ts : List Str) (k : Nat) (acc : Str), sokk acc → (∀ t ∈ ts, sokk t) → sokk (PySem.textFrom k acc ts)
  | [], k, acc, h, _ => h
  | t :: r, k, acc, h, h2 => sokk_from r (k + 1) _ (sokk_app (sokk_app h (sokk_of _)) (h2 t List.mem_cons_self)) fun u hu => h2 u (List.mem_cons_of_mem _ hu)
mutual
def noStr : PyData → Bool
  | .str _ => false
  | .dict _ => false
  | .list xs => noStrs xs
  | .tuple xs => noStrs xs
  | _ => true
def noStrs : List PyData → Bool
  | [] => true
  | x :: r => noStr x && noStrs r
end
theorem noStrs_of : ∀ {ds : List PyData}, (∀ d ∈ ds, noStr d = true) → noStrs ds = true
  | [], _ => by simp [noStrs]
  | d :: r, h => by
    rw [noStrs, h d List.mem_cons_self, noStrs_of fun x hx => h x (List.mem_cons_of_mem _ hx)]
    rfl
mutual
theorem sokk_shown : ∀ d : PyData, noStr d = true → sokk d.shown
  | .none, _ => sokk_of _
  | .bool b, _ => by cases b <;> exact sokk_of _
  | .int i, _ => sokk_of _
  | .str x, h => by simp [noStr] at h
  | .dict x, h => by simp [noStr] at h
  | .list xs, h => by
    rw [noStr] at h
    exact sokk_app (sokk_from _ _ _ (sokk_of _) (sokk_all xs h)) (sokk_of _)
  | .tuple xs, h => by
    rw [noStr] at h
    exact sokk_app (sokk_app (sokk_of _) (sokk_join _ (sokk_all xs h))) (sokk_of _)
theorem sokk_all : ∀ ds : List PyData, noStrs ds = true → ∀ t ∈ PyData.shownAll ds, sokk t
  | [], _, t, ht => by cases ht
  | d :: r, h, t, ht => by
    rw [noStrs, Bool.and_eq_true] at h
    rcases List.mem_cons.mp ht with rfl | ht
    · exact sokk_shown d h.1
    · exact sokk_all r h.2 t ht
end
theorem can_strs : ∀ {ss : List Str}, (∀ s ∈ ss, sokk s) → PyData.canLayAll0 (ss.map .str) = true
  | [], _ => rfl
  | s :: r, h => by
    have := can_strs fun t ht => h t (List.mem_cons_of_mem _ ht)
    simp [PyData.canLayAll0, PyData.canLay0, sokk_str (h s List.mem_cons_self), this]
theorem depth_strs : ∀ {ss : List Str}, PyData.depthAll (ss.map .str) = 0
  | [] => rfl
  | s :: r => by
    have := depth_strs (ss := r)
    simp [PyData.depthAll, PyData.depth, this]
theorem eqv_strs : ∀ {ss ts : List Str}, PyData.eqvAll (ss.map .str) (ts.map .str) = decide (ss = ts)
  | [], [] => by simp [PyData.eqvAll]
  | [], _ :: _ => by simp [PyData.eqvAll]
  | _ :: _, [] => by simp [PyData.eqvAll]
  | s :: r, t :: u => by
    have := eqv_strs (ss := r) (ts := u)
    simp [PyData.eqvAll, this, eqv_str]
theorem shaped_strs {ss : List Str} (h : ∀ s ∈ ss, sokk s) : SeqAt.shaped (.list (ss.map .str)) = true := shaped_list (can_strs h) (by rw [depth_strs]; decide)
/-- lists of right texts -/
theorem ne_strs {ss ts : List Str} (h : ∀ s ∈ ss, sokk s) (h2 : ∀ s ∈ ts, sokk s) : oNe (.list (ss.map .str)) (.list (ts.map .str)) = some (.dat (.bool (!decide (ss = ts)))) := by
  rw [oNe_of (shaped_strs h) (shaped_strs h2)]
  simp [PyData.eqv, eqv_strs]
theorem ne_2str {s : Str} (h : sokk s) : oNe (.list [.str s, .str s]) (.list [.str s, .str s]) = some (.dat (.bool false)) := by
  have := ne_strs (ss := [s, s]) (ts := [s, s]) (by simp [h]) (by simp [h])
  simpa using this
end Fp
namespace Fp
open PySem PySem.Spec L2 Dn
theorem cd_app (a b : Str) : cd (a ++ b) = cd a ++ cd b := cps_app a b
theorem cd_slash : cd slash = [47] := by rw [slash_is]
def sp : Str := Str.ofString " "
theorem cd_sp : cd sp = [32] := by unfold sp; decide +kernel
/-- a ratio from nought on, as a text -/
def rtx (x : Rat) : Str := if x.den = 1 then nT x.num.toNat else nT x.num.toNat ++ slash ++ nT x.den
theorem numL_short {n : Nat} (h : n < 2 ^ 100) : (TL.numL n).length ≤ 31 := TL.numL_len (by decide) (Nat.lt_trans h (by decide))
theorem nT_len {n : Nat} (h : n < 2 ^ 100) : (nT n).length ≤ 31 := by
  rw [cd_len, cd_nT]
  exact numL_short h
theorem rtx_len {x : Rat} (hx : Sz 100 x) : (rtx x).length ≤ 63 := by
  have a := hx.num
  have b := nT_len hx.den
  have c := nT_len (n := x.num.toNat) (by omega)
  unfold rtx
  split
  · omega
  · rw [cd_len, cd_app, cd_app, cd_slash, List.length_append, List.length_append, cd_nT, cd_nT]
    rw [cd_len, cd_nT] at b c
    simp
    omega
theorem strI_nat {n : Nat} (h : n < 2 ^ 100) : oStrI (.int (n : Nat)) = some (.dat (.str (nT n))) := by
  show (if ((n : Nat) : Int).natAbs.log2 < 1920 then some (RV.dat (.str (nT n))) else none) = _
  rw [if_pos]
  rw [Int.natAbs_natCast]
  by_cases z : n = 0
  · subst z
    decide
  · exact (Nat.log2_lt z).mpr (Nat.lt_trans h (Nat.pow_lt_pow_right (by decide) (by decide)))
theorem add_str {a b : Str} (h : a.length + b.length ≤ 100000) : oAdd (.str a) (.str b) = some (.dat (.str (a ++ b))) := by
  show (if a.length + b.length ≤ 100000 then _ else none) = _
  exact if_pos h
theorem sokk_nT (n : Nat) : sokk (nT n) := fun c hc => by
  have hc : c ∈ cd (nT n) := hc
  rw [cd_nT] at hc
  have := TL.numL_digits n c hc
  omega
theorem sokk_rtx (x : Rat) : sokk (rtx x) := by
  unfold rtx
  split
  · exact sokk_nT _
  · exact sokk_app (sokk_app (sokk_nT _) (sokk_of _)) (sokk_nT _)
section
variable {x : Rat} {f : Feed} {L : Life}
theorem ratio_text_q (h0 : 0 ≤ x) (hx : Sz 100 x) : F_ratio_text [.dat (enc x)] f = .ok (.dat (.str (rtx x))) f := by
  have n0 := Rat.num_nonneg.mpr h0
  have a := hx.num
  obtain ⟨n, en⟩ := Int.eq_ofNat_of_zero_le n0
  have i0 : oIx (enc x) (.int 0) = some (.dat (.int (n : Nat))) := by
    show some (RV.dat (.int x.num)) = _
    rw [en]
  have i1 : oIx (enc x) (.int 1) = some (.dat (.int (x.den : Nat))) := rfl
  have s0 := strI_nat (n := n) (by omega)
  have s1 := strI_nat hx.den
  have l0 := nT_len (n := n) (by omega)
  have l1 := nT_len hx.den
  have e : rtx x = if x.den = 1 then nT n else nT n ++ slash ++ nT x.den := by
    unfold rtx
    rw [en, Int.toNat_natCast]
  have ls : slash.length = 1 := by unfold slash; decide +kernel
  have a1 := add_str (a := nT n) (b := slash) (by omega)
  have l2 : (nT n ++ slash).length ≤ 32 := by
    rw [cd_len, cd_app, cd_slash, List.length_append, ← cd_len]
    simp
    omega
  have a2 := add_str (a := nT n ++ slash) (b := nT x.den) (by omega)
  have a1 : oAdd (.str (nT n)) (.str (Str.ofString "/")) = _ := a1
  rw [e]
  apply ev_is
  rw [u_ratio_text, ev_dEnd]
  unfold S_ratio_text
  generalize enc x = ex at *
  generalize x.den = d at *
  generalize nT n ++ slash ++ nT d = T at *
  generalize nT n ++ slash = T1 at *
  generalize nT n = T2 at *
  generalize nT d = T3 at *
  by_cases c : d = 1
  · have ci : (d : Int) = 1 := by omega
    simp [i0, i1, s0, c]
  · have ci : ¬ (d : Int) = 1 := by omega
    simp [i0, i1, s0, s1, c, ci, a1, a2]
theorem q_ratio_text_q (h0 : 0 ≤ x) (hx : Sz 100 x) : F_q_ratio_text [.dat (enc x)] f = .ok (.dat (.str (rtx x))) f := ratio_text_q h0 hx
def semi : Str := Str.ofString ";"
def dash : Str := Str.ofString "-"
def rowT (L : Life) : List Str := if L.row = [] then [dash] else L.row.map rtx
def stepT (L : Life) : List Str := if L.step = 0 then [] else [semi, rtx L.step]
def wordsL (L : Life) : List Str := rowT L ++ stepT L
def txt (L : Life) : Str := Txt.join sp (wordsL L)
/-- a life that can be written -/
structure WrOk (L : Life) : Prop where
  row : ∀ x ∈ L.row, 0 ≤ x ∧ Sz 100 x
  st : 0 ≤ L.step ∧ Sz 100 L.step
  len : L.row.length ≤ 200
theorem word_len (h : WrOk L) : ∀ w ∈ wordsL L, w.length ≤ 63 := fun w hw => by
  have d1 : dash.length = 1 := by unfold dash; decide +kernel
  have d2 : semi.length = 1 := by unfold semi; decide +kernel
  unfold wordsL rowT stepT at hw
  rcases List.mem_append.mp hw with hw | hw
  · split at hw
    · rw [List.mem_singleton.mp hw]
      omega
    · obtain ⟨x, hx, rfl⟩ := List.mem_map.mp hw
      exact rtx_len (h.row x hx).2
  · split at hw
    · cases hw
    · rcases List.mem_cons.mp hw with rfl | hw
      · omega
      · rw [List.mem_singleton.mp hw]
        exact rtx_len h.st.2
theorem words_n (h : WrOk L) : (wordsL L).length ≤ 202 := by
  have := h.len
  unfold wordsL rowT stepT
  rw [List.length_append]
  split <;> split <;> simp <;> omega
theorem sum_len {l : List Str} (h : ∀ w ∈ l, w.length ≤ 63) : (l.map fun (t : Str) => t.length).sum ≤ 63 * l.length := by
  induction l with
  | nil => exact Nat.le_refl _
  | cons a r ih =>
    have := ih fun w hw => h w (List.mem_cons_of_mem _ hw)
    have := h a List.mem_cons_self
    rw [List.map_cons, List.sum_cons, List.length_cons]
    omega
theorem join_words (h : WrOk L) : oJoin (.str sp) (.list ((wordsL L).map .str)) = some (.dat (.str (txt L))) := by
  have a := sum_len (word_len h)
  have b := words_n h
  have c : sp.length = 1 := by unfold sp; decide +kernel
  exact oJoin_list (by rw [c]; omega)
theorem lc_rtx {ρ : Rho} {k : Nat} {F : Dn.Fn} (hF : ∀ x ∈ L.row, ∀ g, F [.dat (enc x)] g = .ok (.dat (.str (rtx x))) g) (hl : L.row.length ≤ 200) (hk : ∀ d : PyData, (Tgt.one k).put d ρ = some (ρ.set k (.dat d))) (hk2 : ∀ d : PyData, (ρ.set k (.dat d))[k]? = some (.dat d)) :
    lcN (.one k) cYes (cCall F [cVar k]) ρ (L.row.map enc) [] f = .ok ((L.row.map rtx).map .str) f := by
  rw [List.map_map]
  refine lc_map (by omega) fun x hx => ⟨_, hk _, ?_⟩
  have := hF x hx
  have q := hk2 (enc x)
  generalize enc x = ex at *
  generalize ρ.set k (.dat ex) = σ at *
  simp [q, this]
theorem q_life_text_q (h : WrOk L) : F_q_life_text [.dat (lifeD L)] f = .ok (.dat (.str (txt L))) f := by
  have jw := join_words h
  have hl := h.len
  have i0 : oIx (lifeD L) (.int 0) = some (.dat (.tuple (L.row.map enc))) := rfl
  have i1 : oIx (lifeD L) (.int 1) = some (.dat (enc L.step)) := rfl
  have st := q_ratio_text_q (f := f) h.st.1 h.st.2
  have nz : oNe (enc L.step) (.tuple [.int 0, .int 1]) = some (.dat (.bool (!decide (L.step = 0)))) := ne_enc0
  have lc := fun (s1 : Slot) (D : PyData) => lc_rtx (L := L) (ρ := [.dat D, s1, .emp]) (k := 2) (F := F_q_ratio_text) (f := f) (fun x hx g => q_ratio_text_q (h.row x hx).1 (h.row x hx).2) hl (fun _ => rfl) (fun _ => rfl)
  have ll : ((L.row.map rtx).map PyData.str).length ≤ 200 := by rw [List.length_map, List.length_map]; exact hl
  have jsp : sp = Str.ofString " " := rfl
  have en : oEq (.list ((L.row.map rtx).map .str)) (.list []) = some (.dat (.bool (decide (L.row = [])))) := by
    rw [oEq_of (shaped_strs fun s hs => by
      obtain ⟨x, _, rfl⟩ := List.mem_map.mp hs
      exact sokk_rtx x) rfl]
    cases q : L.row with
    | nil => rfl
    | cons a r => simp [PyData.eqv, PyData.eqvAll]
  apply ev_is
  rw [u_q_life_text, ev_dEnd]
  unfold S_q_life_text
  rw [jsp] at jw
  unfold wordsL rowT stepT at jw
  by_cases c : L.row = []
  · rw [if_pos c] at jw
    rw [decide_eq_true c] at en
    by_cases z : L.step = 0
    · rw [if_pos z] at jw
      rw [decide_eq_true z] at nz
      have jw : oJoin (.str (Str.ofString " ")) (.list [.str (Str.ofString "-")]) = some (.dat (.str (txt L))) := jw
      generalize lifeD L = D at *
      generalize enc L.step = es at *
      generalize L.row.map enc = E at *
      generalize txt L = T at *
      generalize (L.row.map rtx).map PyData.str = R at *
      simp [i0, i1, lc, en, nz, jw]
    · rw [if_neg z] at jw
      rw [decide_eq_false z] at nz
      have jw : oJoin (.str (Str.ofString " ")) (.list [.str (Str.ofString "-"), .str (Str.ofString ";"), .str (rtx L.step)]) = some (.dat (.str (txt L))) := jw
      generalize lifeD L = D at *
      generalize enc L.step = es at *
      generalize L.row.map enc = E at *
      generalize txt L = T at *
      generalize rtx L.step = S at *
      generalize (L.row.map rtx).map PyData.str = R at *
      simp [i0, i1, lc, en, nz, st, jw]
  · rw [if_neg c] at jw
    rw [decide_eq_false c] at en
    by_cases z : L.step = 0
    · rw [if_pos z, List.append_nil] at jw
      rw [decide_eq_true z] at nz
      generalize lifeD L = D at *
      generalize enc L.step = es at *
      generalize L.row.map enc = E at *
      generalize txt L = T at *
      generalize (L.row.map rtx).map PyData.str = R at *
      simp [i0, i1, en, nz, lc, jw]
    · rw [if_neg z, List.map_append] at jw
      rw [decide_eq_false z] at nz
      have jw : oJoin (.str (Str.ofString " ")) (.list ((L.row.map rtx).map .str ++ [.str (Str.ofString ";"), .str (rtx L.step)])) = some (.dat (.str (txt L))) := jw
      generalize lifeD L = D at *
      generalize enc L.step = es at *
      generalize L.row.map enc = E at *
      generalize txt L = T at *
      generalize rtx L.step = S at *
      generalize (L.row.map rtx).map PyData.str = R at *
      simp [i0, i1, en, nz, st, lc, jw, show R.length + 2 ≤ 100000 by omega]
end
end Fp
namespace Fp
open PySem PySem.Spec L2 Dn
theorem num_le_den {x : Rat} (h : x ≤ 1) : x.num ≤ x.den := by
  have := (Rat.le_iff x 1).mp h
  simpa using this
theorem rtx_signs {x : Rat} {c : Nat} (h : c ∈ cd (rtx x)) : 47 ≤ c ∧ c ≤ 57 := by
  have num : ∀ n, c ∈ cd (nT n) → 47 ≤ c ∧ c ≤ 57 := fun n hc => by
    rw [cd_nT] at hc
    have := TL.numL_digits n c hc
    omega
  unfold rtx at h
  split at h
  · exact num _ h
  · rw [cd_app, cd_app, cd_slash] at h
    rcases List.mem_append.mp h with h | h
    · rcases List.mem_append.mp h with h | h
      · exact num _ h
      · have : c = 47 := by simpa using h
        omega
    · exact num _ h
theorem cd_dash : cd dash = [45] := by unfold dash; decide +kernel
theorem cd_semi : cd semi = [59] := by unfold semi; decide +kernel
theorem words_free (L : Life) : ∀ w ∈ wordsL L, 32 ∉ cd w := fun w hw hc => by
  unfold wordsL rowT stepT at hw
  rcases List.mem_append.mp hw with hw | hw
  · split at hw
    · rw [List.mem_singleton.mp hw, cd_dash] at hc
      simp at hc
    · obtain ⟨x, _, rfl⟩ := List.mem_map.mp hw
      have := rtx_signs hc
      omega
  · split at hw
    · cases hw
    · rcases List.mem_cons.mp hw with rfl | hw
      · rw [cd_semi] at hc
        simp at hc
      · rw [List.mem_singleton.mp hw] at hc
        have := rtx_signs hc
        omega
theorem words_ne (L : Life) : wordsL L ≠ [] := fun h => by
  unfold wordsL rowT at h
  have := (List.append_eq_nil_iff.mp h).1
  split at this
  · simp at this
  · next c => exact c (List.map_eq_nil_iff.mp this)
theorem split_txt (L : Life) : Txt.split (txt L) sp = wordsL L := TL.split_join (s := 32) (S := []) cd_sp (by unfold sp; decide +kernel) (words_ne L) (words_free L)
theorem joinL_len {S : List Nat} : ∀ ps : List (List Nat), (TL.joinL S ps).length ≤ (ps.map List.length).sum + ps.length * S.length
  | [] => by simp [TL.joinL]
  | [p] => by simp [TL.joinL]
  | p :: q :: r => by
    have := joinL_len (S := S) (q :: r)
    show (p ++ (S ++ TL.joinL S (q :: r))).length ≤ _
    rw [List.length_append, List.length_append, List.map_cons, List.sum_cons, List.length_cons, Nat.succ_mul]
    omega
end Fp
namespace Fp
open PySem PySem.Spec L2 Dn
theorem bn_le {x : Rat} (h : x.den < 1000) : bn x ≤ 10 := by
  unfold bn
  have dp := x.den_pos
  simp only [siz]
  rw [Int.natAbs_natCast]
  have : x.den.log2 < 10 := (Nat.log2_lt (by omega)).mpr (by omega)
  omega
theorem rowB_le {vs : List Rat} (h : ∀ x ∈ vs, x.den < 1000) : rowB vs ≤ 11 * vs.length := by
  induction vs with
  | nil => exact Nat.le_refl _
  | cons a r ih =>
    have := ih fun x hx => h x (List.mem_cons_of_mem _ hx)
    have := bn_le (h a List.mem_cons_self)
    rw [rowB_cons, List.length_cons]
    omega
/-- a row of chances of three figures at most -/
structure RowF (vs : List Rat) : Prop where
  c : ∀ x ∈ vs, 0 ≤ x ∧ x ≤ 1
  d : ∀ x ∈ vs, x.den < 1000
  len : vs.length ≤ 160
section
variable {vs : List Rat} {x : Rat} {f : Feed} {L : Life}
theorem RowF.take (h : RowF vs) (i : Nat) : RowF (vs.take i) := ⟨fun x hx => h.c x (List.mem_of_mem_take hx), fun x hx => h.d x (List.mem_of_mem_take hx), Nat.le_trans (by rw [List.length_take]; omega) h.len⟩
theorem RowF.sz (h : RowF vs) : Sz 2000 vs.sum := by
  have a := rowB_le h.d
  have b := h.len
  exact (q_sum_any (f := ⟨[], 0, 0, 0⟩) (B := rowB vs + 1) h.c (Nat.le_refl _) (by omega) (by omega)).2.up (by omega)
theorem sz_chance (h0 : 0 ≤ x) (h1 : x ≤ 1) (hd : x.den < 1000) : Sz 10 x := (sz_bn h0 h1).up (bn_le hd)
theorem chance_q (h0 : 0 ≤ x) (h1 : x ≤ 1) (hd : x.den < 1000) : F_is_chance [.dat (enc x)] f = .ok (.dat (.bool true)) f := by
  have := is_chance_any (f := f) (th_enc (sz_chance h0 h1 hd))
  rw [isc_of, decide_eq_true ⟨h0, h1⟩] at this
  exact this
theorem is_life_V (h : RowF vs) (hv : vs ≠ []) (h0 : 0 ≤ x) (h1 : x ≤ 1) (hd : x.den < 1000) : F_is_life [.dat (lifeP vs x)] f = .ok (.dat (.bool (decide (x < 1 ∧ wholeV vs x ≤ 1)))) f := by
  have c1 := chance_q (f := f) h0 h1 hd
  have i0 : oIx (lifeP vs x) (.int 0) = some (.dat (.tuple (vs.map enc))) := rfl
  have i1 : oIx (lifeP vs x) (.int 1) = some (.dat (enc x)) := rfl
  have ll : oLen (lifeP vs x) = some (.dat (.int 2)) := rfl
  have tt : oIsi "tuple" (lifeP vs x) = some (.dat (.bool true)) := rfl
  have ee : oEq (enc x) (.tuple [.int 1, .int 1]) = some (.dat (.bool (decide (x = 1)))) := eq_enc (y := 1)
  have hl := h.len
  have lc : lcN (.one 1) cYes (cCall F_is_chance [cVar 1]) [.dat (lifeP vs x), .emp] (vs.map enc) [] f = .ok (vs.map fun _ => .bool true) f := by
    refine lc_map (by omega) fun y hy => ⟨_, rfl, ?_⟩
    have q := chance_q (f := f) (h.c y hy).1 (h.c y hy).2 (h.d y hy)
    generalize enc y = ey at *
    generalize lifeP vs x = D at *
    simp [q]
  have al : oAll (.list (vs.map fun _ => .bool true)) = some (.dat (.bool true)) := by
    have := all_bools vs fun _ => true
    rw [this]
    simp
  have ln : ¬ (vs.map enc).length = 0 := by
    rw [List.length_map]
    exact fun z => hv (List.length_eq_zero_iff.mp z)
  have a := rowB_le h.d
  apply ev_is
  rw [u_is_life, ev_dEnd]
  unfold S_is_life
  by_cases xe : x = 1
  · have e : decide (x < 1 ∧ wholeV vs x ≤ 1) = false := decide_eq_false fun z => by
      have := z.1
      rw [xe] at this
      exact absurd this (by decide)
    rw [decide_eq_true xe] at ee
    rw [e]
    generalize lifeP vs x = D at *
    generalize vs.map enc = E at *
    generalize enc x = ex at *
    simp [tt, ll, i0, i1, c1, ee]
  · have xl : x < 1 := by grind
    obtain ⟨ca, cs⟩ := chances_added_any (f := f) h.c hv h0 xl (by omega) (by have := bn_le hd; omega)
    have bl := below_4 (f := f) sz_1 cs
    have e : decide (x < 1 ∧ wholeV vs x ≤ 1) = !decide (1 < wholeV vs x) := by
      rw [← decide_not, decide_eq_decide]
      constructor
      · intro z q
        have := z.2
        grind
      · intro z
        exact ⟨xl, by grind⟩
    have b1 : enc 1 = .tuple [.int 1, .int 1] := rfl
    rw [b1] at bl
    rw [decide_eq_false xe] at ee
    rw [e]
    generalize lifeP vs x = D at *
    generalize vs.map (fun _ => PyData.bool true) = B at *
    generalize vs.map enc = E at *
    generalize enc x = ex at *
    generalize enc (wholeV vs x) = ew at *
    simp [tt, ll, i0, i1, c1, ee, lc, al, ln, ca, bl]
/-- lives of three figures at most -/
structure Good (L : Life) : Prop where
  row : RowF L.row
  s0 : 0 ≤ L.step
  s1 : L.step < 1
  sd : L.step.den < 1000
  emp : L.row = [] → L.step = 0
  tot : L.row ≠ [] → wholeV L.row L.step ≤ 1
theorem Good.wr (h : Good L) : WrOk L := ⟨fun x hx => ⟨(h.row.c x hx).1, (sz_chance (h.row.c x hx).1 (h.row.c x hx).2 (h.row.d x hx)).up (by decide)⟩, ⟨h.s0, (sz_chance h.s0 (Rat.le_of_lt h.s1) h.sd).up (by decide)⟩, by have := h.row.len; omega⟩
end
end Fp
namespace Fp
open PySem PySem.Spec L2 Dn
section
variable {f : Feed} {L : Life}
theorem pairs_strs (ws : List Str) : pairsD (ws.map .str) = (List.range ws.length).map fun k => .tuple [.int (k : Nat), .str (ws.getD k Str.empty)] := by
  apply List.ext_getElem?
  intro i
  by_cases hi : i < ws.length
  · have e : (ws.map PyData.str)[i]? = some (.str (ws.getD i Str.empty)) := by
      rw [List.getElem?_map, List.getD_eq_getElem?_getD, List.getElem?_eq_getElem hi]
      rfl
    rw [pairsD_get e, List.getElem?_map, List.getElem?_range hi]
    rfl
  · rw [List.getElem?_eq_none (by rw [pairsD_length, List.length_map]; omega), List.getElem?_eq_none (by rw [List.length_map, List.length_range]; omega)]
theorem sum_le_part (h : ∀ x ∈ L.row, 0 ≤ x) (i : Nat) : (L.row.take i).sum ≤ L.row.sum := by
  have e : L.row.sum = (L.row.take i).sum + (L.row.drop i).sum := by
    rw [← sum_app, List.take_append_drop]
  have : 0 ≤ (L.row.drop i).sum := by
    have nn : ∀ l : List Rat, (∀ x ∈ l, 0 ≤ x) → 0 ≤ l.sum := by
      intro l
      induction l with
      | nil => intro _; exact Rat.le_refl
      | cons a r ih =>
        intro q
        have := ih fun x hx => q x (List.mem_cons_of_mem _ hx)
        have := q a List.mem_cons_self
        rw [List.sum_cons]
        grind
    exact nn _ fun x hx => h x (List.mem_of_mem_drop hx)
  grind
theorem Good.part (h : Good L) (hne : L.row ≠ []) (i : Nat) : (L.row.take i).sum ≤ 1 := by
  have a := sum_le_part (fun x hx => (h.row.c x hx).1) i
  have b := h.tot hne
  unfold wholeV at b
  have l0 := (h.row.c _ (last_mem hne)).1
  have p : 0 < 1 - L.step := by have := h.s1; grind
  have c : 0 ≤ L.row.getLastD 0 * L.step / (1 - L.step) := by
    rw [Rat.div_def]
    exact Rat.mul_nonneg (Rat.mul_nonneg l0 h.s0) (Rat.le_of_lt (Rat.inv_pos.mpr p))
  grind
end
end Fp
namespace Fp
open PySem PySem.Spec L2 Dn
/-- a triple: a stretch, the kind that comes next, a chance -/
structure Tri where
  st : Nat
  nx : Nat
  c : Rat
def TLt (s t : Tri) : Prop := s.st < t.st ∨ (s.st = t.st ∧ s.nx < t.nx)
/-- a kind among n, its chances whole by W -/
structure KdOk (n W : Nat) (k : List Tri) : Prop where
  W0 : 0 < W
  len : k.length ≤ 24
  st : ∀ t ∈ k, 1 ≤ t.st ∧ t.st ≤ 6 ∧ t.nx < n
  c : ∀ t ∈ k, Wh W t.c ∧ 0 < t.c ∧ t.c ≤ 1
  sum : (k.map (·.c)).sum ≤ 1
  rise : k.Pairwise TLt
theorem KdOk.up {n W V : Nat} {k : List Tri} (h : KdOk n W k) (d : W ∣ V) (V0 : 0 < V) : KdOk n V k :=
  ⟨V0, h.len, h.st, fun t ht => ⟨(h.c t ht).1.up d, (h.c t ht).2⟩, h.sum, h.rise⟩
structure KsOk (W : Nat) (ks : List (List Tri)) : Prop where
  n1 : 1 ≤ ks.length
  n4 : ks.length ≤ 4
  W0 : 0 < W
  ok : ∀ k ∈ ks, KdOk ks.length W k
  own : ∀ k ∈ ks, ∃ V, V ≤ 200 ∧ KdOk ks.length V k
abbrev Mk3 := Nat × Nat × Nat
def keyI (x : Mk3) : List Int := [(x.1 : Int), (x.2.1 : Int)]
def markI (x : Mk3) : List Int × PyData := (keyI x, .int (x.2.2 : Nat))
theorem map_of {α β : Type} {f : α → β} {P : α → Prop} : ∀ {l : List β}, (∀ p ∈ l, ∃ x, p = f x ∧ P x) → ∃ ws : List α, l = ws.map f ∧ ∀ x ∈ ws, P x
  | [], _ => ⟨[], rfl, fun x h => by cases h⟩
  | p :: r, h => by
    obtain ⟨ws, e, q⟩ := map_of fun y hy => h y (List.mem_cons_of_mem _ hy)
    obtain ⟨x, rfl, px⟩ := h p List.mem_cons_self
    refine ⟨x :: ws, by rw [e]; rfl, fun y hy => ?_⟩
    rcases List.mem_cons.mp hy with rfl | hy
    · exact px
    · exact q y hy
theorem lex2 {a b c d : Int} : HT.lexLt [a, b] [c, d] = if a = c then (if b = d then false else decide (b < d)) else decide (a < c) := by
  rw [HT.lexLt_cons, HT.lexLt_cons]
  rfl
theorem sort_marks (ws : List Mk3) (hn : (ws.map keyI).Nodup) : ∃ vs : List Mk3, vs.Perm ws ∧ sortL (ws.map keyI) = vs.map keyI ∧ vs.Pairwise fun x y => x.1 < y.1 ∨ (x.1 = y.1 ∧ x.2.1 < y.2.1) := by
  have s : (ws.mergeSort fun x y => lexLe (keyI x) (keyI y)).Pairwise fun x y => lexLe (keyI x) (keyI y) = true :=
    List.pairwise_mergeSort (fun a b c => lexLe_trans (keyI a) (keyI b) (keyI c)) (fun a b => lexLe_total (keyI a) (keyI b)) ws
  have p : (ws.mergeSort fun x y => lexLe (keyI x) (keyI y)).Perm ws := List.mergeSort_perm ws _
  generalize (ws.mergeSort fun x y => lexLe (keyI x) (keyI y)) = vs at s p
  have s2 : Srt (vs.map keyI) := List.pairwise_map.mpr (s.imp fun {a b} h => by
    unfold lexLe at h
    simpa using h)
  refine ⟨vs, p, sortL_is s2 (p.map keyI), ?_⟩
  have nd : (vs.map keyI).Nodup := (p.map keyI).nodup_iff.mpr hn
  have nd2 : vs.Pairwise fun x y => keyI x ≠ keyI y := List.pairwise_map.mp nd
  refine ((List.pairwise_map.mp s2).and nd2).imp fun {x y} h => ?_
  obtain ⟨h1, h2⟩ := h
  unfold keyI at h1 h2
  rw [lex2] at h1
  simp only [ne_eq, List.cons.injEq, and_true, Int.natCast_inj] at h2
  split at h1
  · rename_i e
    split at h1
    · exact absurd ⟨by omega, by omega⟩ h2
    · have := of_decide_eq_false h1
      exact .inr ⟨by omega, by omega⟩
  · have := of_decide_eq_false h1
    exact .inl (by omega)
theorem perm_sumK {l m : List Rat} (h : l.Perm m) : l.sum = m.sum := by
  induction h with
  | nil => rfl
  | cons x _ ih => rw [List.sum_cons, List.sum_cons, ih]
  | swap x y l =>
    rw [List.sum_cons, List.sum_cons, List.sum_cons, List.sum_cons]
    grind
  | trans _ _ a b => exact a.trans b
def triM (T : Nat) (x : Mk3) : Tri := ⟨x.1, x.2.1, mkRat (x.2.2 : Nat) T⟩
theorem sum_mk1 {W : Nat} (W0 : 0 < W) (us : List Nat) : (us.map fun (w : Nat) => mkRat (w : Nat) W).sum * (W : Rat) = (us.sum : Nat) := by
  have := sum_mk (B := 1) W0 us
  simpa using this
theorem mk_pos {W i : Nat} (hW : 0 < W) (h : 0 < i) : 0 < mkRat (i : Nat) W := by
  have h1 := (frac01 (W := max W i) (i := i) (by omega) (by omega)).1
  have e : mkRat (i : Nat) W * (W : Rat) = (i : Rat) := mk_mul (i := i) hW
  have hW2 : (0 : Rat) < W := Rat.natCast_pos.mpr hW
  have hi : (0 : Rat) < i := Rat.natCast_pos.mpr h
  apply Rat.not_le.mp
  intro z
  have : mkRat (i : Nat) W * (W : Rat) ≤ 0 * W := Rat.mul_le_mul_of_nonneg_right z (by grind)
  grind
/-- marks, sorted, by their whole -/
theorem marks_kind {n T : Nat} {ws : List Mk3} (hn : (ws.map keyI).Nodup) (hl : ws.length ≤ 24) (hb : ∀ x ∈ ws, 1 ≤ x.1 ∧ x.1 ≤ 6 ∧ x.2.1 < n ∧ 1 ≤ x.2.2) (T0 : 0 < T) (hT : (ws.map (·.2.2)).sum ≤ T) :
    ∃ vs : List Mk3, sortL (ws.map keyI) = vs.map keyI ∧ vs.Perm ws ∧ KdOk n T (vs.map (triM T)) ∧ ((ws.map (·.2.2)).sum = T → ((vs.map (triM T)).map (·.c)).sum = 1) := by
  obtain ⟨vs, p, e, r⟩ := sort_marks ws hn
  have hs : ((vs.map (triM T)).map (·.c)).sum * (T : Rat) = ((ws.map (·.2.2)).sum : Nat) := by
    rw [← sum_mk1 T0, List.map_map, List.map_map]
    congr 1
    exact perm_sumK (p.map _)
  have hT2 : (0 : Rat) < T := Rat.natCast_pos.mpr T0
  have hTn : (T : Rat) ≠ 0 := by grind
  refine ⟨vs, e, p, ⟨T0, by rw [List.length_map, p.length_eq]; exact hl, fun t ht => ?_, fun t ht => ?_, ?_, List.pairwise_map.mpr (r.imp fun {x y} h => h)⟩, fun h => ?_⟩
  · obtain ⟨x, hx, rfl⟩ := List.mem_map.mp ht
    obtain ⟨h1, h2, h3, _⟩ := hb x (p.mem_iff.mp hx)
    exact ⟨h1, h2, h3⟩
  · obtain ⟨x, hx, rfl⟩ := List.mem_map.mp ht
    have hx2 := p.mem_iff.mp hx
    obtain ⟨_, _, _, h4⟩ := hb x hx2
    have h5 : x.2.2 ≤ T := Nat.le_trans (mem_le_sum (List.mem_map.mpr ⟨x, hx2, rfl⟩)) hT
    exact ⟨wh_mk T0, mk_pos T0 (by omega), (frac01 T0 h5).2⟩
  · have h1 : (((ws.map (·.2.2)).sum : Nat) : Rat) ≤ T := Rat.natCast_le_natCast.mpr hT
    apply Rat.not_lt.mp
    intro z
    have := Rat.mul_lt_mul_of_pos_right z hT2
    grind
  · rw [h] at hs
    have : (((vs.map (triM T)).map (·.c)).sum - 1) * (T : Rat) = 0 := by grind
    rcases Rat.mul_eq_zero.mp this with h | h
    · grind
    · exact absurd h hTn
end Fp
namespace Fp
open PySem PySem.Spec L2 Dn
/-- marks as they grow -/
structure MOk (n m : Nat) (kvs : List (List Int × PyData)) : Prop where
  nd : (kvs.map (·.1)).Nodup
  len : kvs.length ≤ m
  at' : ∀ p ∈ kvs, ∃ x : Mk3, p = markI x ∧ 1 ≤ x.1 ∧ x.1 ≤ 6 ∧ x.2.1 < n ∧ 1 ≤ x.2.2 ∧ x.2.2 ≤ 9
theorem MOk.put {n m : Nat} {kvs : List (List Int × PyData)} (h : MOk n m kvs) {x : Mk3} (h1 : 1 ≤ x.1) (h2 : x.1 ≤ 6) (h3 : x.2.1 < n) (h4 : 1 ≤ x.2.2) (h5 : x.2.2 ≤ 9) : MOk n (m + 1) (setK kvs (keyI x) (.int (x.2.2 : Nat))) where
  nd := setK_nodup _ _ h.nd
  len := Nat.le_trans (setK_len _ _ _) (Nat.succ_le_succ h.len)
  at' := fun p hp => by
    rcases setK_mem hp with hp | rfl
    · exact h.at' p hp
    · exact ⟨x, rfl, h1, h2, h3, h4, h5⟩
theorem sum_le_len {b : Nat} : ∀ {l : List Nat}, (∀ x ∈ l, x ≤ b) → l.sum ≤ l.length * b
  | [], _ => by simp
  | a :: r, h => by
    have := sum_le_len fun x hx => h x (List.mem_cons_of_mem _ hx)
    have := h a List.mem_cons_self
    rw [List.sum_cons, List.length_cons, Nat.succ_mul]
    omega
/-- the kind that marks tell -/
theorem MOk.kind {n m lack : Nat} {kvs : List (List Int × PyData)} (h : MOk n m kvs) (m4 : m ≤ 4) (hl : lack ≤ 9) (h0 : kvs ≠ [] ∨ 0 < lack) :
    ∃ (T : Nat) (vs : List Mk3), 0 < T ∧ T ≤ 45 ∧ oSum (.list (kvs.map (·.2))) = some (.dat (.int ((T : Int) - lack))) ∧ sortL (kvs.map (·.1)) = vs.map keyI ∧ (∀ x ∈ vs, getK kvs (keyI x) = some (.int (x.2.2 : Nat))) ∧ vs.length ≤ 4 ∧ KdOk n T (vs.map (triM T)) ∧ (lack = 0 → ((vs.map (triM T)).map (·.c)).sum = 1) := by
  obtain ⟨ws, e, hw⟩ := map_of h.at'
  subst e
  have k1 : (ws.map markI).map (·.1) = ws.map keyI := by
    rw [List.map_map]
    rfl
  have k2 : (ws.map markI).map (·.2) = (ws.map (·.2.2)).map fun (w : Nat) => PyData.int w := by
    rw [List.map_map, List.map_map]
    rfl
  have hn := h.nd
  rw [k1] at hn
  have hlen : ws.length ≤ 4 := by
    have := h.len
    rw [List.length_map] at this
    omega
  have hs9 : (ws.map (·.2.2)).sum ≤ 36 := by
    have := sum_le_len (b := 9) (l := ws.map (·.2.2)) fun x hx => by
      obtain ⟨y, hy, rfl⟩ := List.mem_map.mp hx
      exact (hw y hy).2.2.2.2
    rw [List.length_map] at this
    omega
  have T0 : 0 < (ws.map (·.2.2)).sum + lack := by
    rcases h0 with h0 | h0
    · cases ws with
      | nil => exact absurd rfl h0
      | cons a r =>
        have := (hw a List.mem_cons_self).2.2.2.1
        rw [List.map_cons, List.sum_cons]
        omega
    · omega
  obtain ⟨vs, e1, e2, e3, e4⟩ := marks_kind hn (by omega) (fun x hx => ⟨(hw x hx).1, (hw x hx).2.1, (hw x hx).2.2.1, (hw x hx).2.2.2.1⟩) T0 (Nat.le_add_right _ _)
  refine ⟨(ws.map (·.2.2)).sum + lack, vs, T0, by omega, ?_, by rw [k1, e1], fun x hx => ?_, by rw [e2.length_eq]; exact hlen, e3, fun z => e4 (by omega)⟩
  · rw [k2, oSum_nats]
    congr 3
    omega
  · exact getK_of_mem (p := markI x) h.nd (List.mem_map.mpr ⟨x, e2.mem_iff.mp hx, rfl⟩)
def fullK (k : List Tri) : Prop := (k.map (·.c)).sum = 1
/-- kinds so far -/
structure SoFar (n i : Nat) (full : Bool) (ks : List (List Tri)) : Prop where
  len : ks.length = i
  W : ∃ W, 0 < W ∧ W ≤ 200 ^ i ∧ ∀ k ∈ ks, KdOk n W k
  full : full = true → ∀ k ∈ ks, fullK k
  own : ∀ k ∈ ks, ∃ V, V ≤ 200 ∧ KdOk n V k
theorem SoFar.nil {n : Nat} {full : Bool} : SoFar n 0 full [] := ⟨rfl, ⟨1, by decide, by decide, fun k h => (by cases h)⟩, fun _ k h => (by cases h), fun k h => (by cases h)⟩
theorem SoFar.snoc {n i T : Nat} {full : Bool} {ks : List (List Tri)} {k : List Tri} (h : SoFar n i full ks) (hk : KdOk n T k) (hT : T ≤ 200) (hf : full = true → fullK k) : SoFar n (i + 1) full (ks ++ [k]) := by
  obtain ⟨W, W0, W1, w⟩ := h.W
  refine ⟨by rw [List.length_append, h.len]; rfl, ⟨W * T, Nat.mul_pos W0 hk.W0, ?_, fun l hl => ?_⟩, fun z l hl => ?_, fun l hl => ?_⟩
  · rw [Nat.pow_succ]
    exact Nat.mul_le_mul W1 hT
  · rcases List.mem_append.mp hl with hl | hl
    · exact (w l hl).up (Nat.dvd_mul_right _ _) (Nat.mul_pos W0 hk.W0)
    · rw [List.mem_singleton] at hl
      subst hl
      exact hk.up (Nat.dvd_mul_left _ _) (Nat.mul_pos W0 hk.W0)
  · rcases List.mem_append.mp hl with hl | hl
    · exact h.full z l hl
    · rw [List.mem_singleton] at hl
      subst hl
      exact hf z
  · rcases List.mem_append.mp hl with hl | hl
    · exact h.own l hl
    · rw [List.mem_singleton] at hl
      subst hl
      exact ⟨T, hT, hk⟩
theorem SoFar.all {n : Nat} {full : Bool} {ks : List (List Tri)} (h : SoFar n n full ks) (n1 : 1 ≤ n) (n4 : n ≤ 4) : ∃ W, W ≤ 2 ^ 31 ∧ KsOk W ks := by
  obtain ⟨W, W0, W1, w⟩ := h.W
  have : 200 ^ n ≤ 200 ^ 4 := Nat.pow_le_pow_right (by decide) n4
  exact ⟨W, by omega, by rw [h.len]; exact n1, by rw [h.len]; exact n4, W0, by rw [h.len]; exact w, by rw [h.len]; exact h.own⟩
end Fp
namespace Fp
open PySem PySem.Spec L2 Dn
def gt : Str := Str.ofString ">"
def colon : Str := Str.ofString ":"
theorem gt_is : gt = ⟨#[62]⟩ := cd_inj (by unfold gt; decide +kernel)
theorem colon_is : colon = ⟨#[58]⟩ := cd_inj (by unfold colon; decide +kernel)
theorem cd_gt : cd gt = [62] := by rw [gt_is]
theorem cd_colon : cd colon = [58] := by rw [colon_is]
def triT (t : Tri) : Str := nT t.st ++ gt ++ nT t.nx ++ colon ++ rtx t.c
def kindT (k : List Tri) : Str := if k = [] then dash else Txt.join sp (k.map triT)
/-- a triple that can be written -/
structure TrOk (t : Tri) : Prop where
  st : t.st < 1000
  nx : t.nx < 1000
  c0 : 0 ≤ t.c
  c1 : t.c ≤ 1
  d : t.c.den < 1000
theorem TrOk.sz {t : Tri} (h : TrOk t) : Sz 100 t.c := (sz_chance h.c0 h.c1 h.d).up (by decide)
theorem len_app (a b : Str) : (a ++ b).length = a.length + b.length := by
  rw [cd_len, cd_app, List.length_append, ← cd_len, ← cd_len]
theorem len_gt : gt.length = 1 := by unfold gt; decide +kernel
theorem len_colon : colon.length = 1 := by unfold colon; decide +kernel
section
variable {t : Tri} {k : List Tri} {ks : List (List Tri)} {f : Feed}
theorem lens_le {l : List Str} {m : Nat} (h : ∀ w ∈ l, w.length ≤ m) : (l.map fun (t : Str) => t.length).sum ≤ m * l.length := by
  induction l with
  | nil => exact Nat.le_refl _
  | cons a r ih =>
    have := ih fun w hw => h w (List.mem_cons_of_mem _ hw)
    have := h a List.mem_cons_self
    rw [List.map_cons, List.sum_cons, List.length_cons, Nat.mul_succ]
    omega
theorem cd_triT (t : Tri) : cd (triT t) = TL.numL t.st ++ [62] ++ TL.numL t.nx ++ [58] ++ cd (rtx t.c) := by
  unfold triT
  rw [cd_app, cd_app, cd_app, cd_app, cd_nT, cd_nT, cd_gt, cd_colon]
theorem triT_signs {c : Nat} (h : c ∈ cd (triT t)) : (47 ≤ c ∧ c ≤ 58) ∨ c = 62 := by
  rw [cd_triT] at h
  simp only [List.mem_append, List.mem_singleton] at h
  rcases h with (((h | h) | h) | h) | h
  · have := TL.numL_digits _ c h
    omega
  · exact .inr h
  · have := TL.numL_digits _ c h
    omega
  · omega
  · have := rtx_signs h
    omega
end
end Fp
namespace Fp
open PySem PySem.Spec L2 Dn
section
variable {t : Tri} {k : List Tri} {ks : List (List Tri)} {f : Feed} {w : Str} {n : Nat}
theorem sokk_triT : sokk (triT t) := fun c hc => by
  have := triT_signs (t := t) (c := c) hc
  omega
theorem split_any (w y : Str) (c : Nat) (hy : y = ⟨#[c]⟩) : 1 ≤ (Txt.split w y).length ∧ (Txt.split w y).length ≤ w.length + 2 := by
  have h := PyProof.Rows.split_len w c
  rw [← hy] at h
  have := cnt_nn c w.cps.toList
  exact ⟨by omega, PyProof.Rows.split_le w y⟩
theorem split_op (w : Str) (y : Str) (hl : w.length ≤ 90000) (hy : (y.length == 0) = false) : oSplit (.str w) (.str y) = some (.own ((Txt.split w y).map .str)) := by
  rw [oSplit_str, if_pos ⟨hy, by omega⟩]
end
end Fp
namespace Fp
open PySem PySem.Spec L2 Dn
/-- chances of a kind, of some triples, added -/
def cp (k : List Tri) (p : Tri → Bool) : Rat := ((k.filter p).map (·.c)).sum
theorem cp_cons {k : List Tri} {t : Tri} {p : Tri → Bool} : cp (t :: k) p = (if p t = true then t.c else 0) + cp k p := by
  unfold cp
  by_cases h : p t = true
  · rw [List.filter_cons_of_pos h, if_pos h]
    simp
  · rw [List.filter_cons_of_neg h, if_neg h]
    simp [Rat.zero_add]
theorem cp_bd {k : List Tri} {p : Tri → Bool} (h : ∀ t ∈ k, 0 ≤ t.c) : 0 ≤ cp k p ∧ cp k p ≤ (k.map (·.c)).sum := by
  induction k with
  | nil => exact ⟨Rat.le_refl, Rat.le_refl⟩
  | cons t k ih =>
    obtain ⟨h1, h2⟩ := ih fun s hs => h s (List.mem_cons_of_mem _ hs)
    have h3 := h t List.mem_cons_self
    rw [cp_cons, List.map_cons, List.sum_cons]
    constructor
    · split <;> grind
    · split <;> grind
theorem cp_wh {W : Nat} {k : List Tri} {p : Tri → Bool} (h : ∀ t ∈ k, Wh W t.c) : Wh W (cp k p) :=
  sum_wh fun x hx => by
    obtain ⟨t, ht, rfl⟩ := List.mem_map.mp hx
    exact h t (List.mem_filter.mp ht).1
theorem KdOk.cp {n W : Nat} {k : List Tri} (h : KdOk n W k) (p : Tri → Bool) : Wh W (cp k p) ∧ 0 ≤ Fp.cp k p ∧ Fp.cp k p ≤ 1 := by
  have := cp_bd (p := p) fun t ht => (show 0 ≤ t.c by have := (h.c t ht).2.1; grind)
  have h1 := h.sum
  exact ⟨cp_wh fun t ht => (h.c t ht).1, this.1, by grind⟩
theorem sz01 {D n : Nat} {x : Rat} (hD : 0 < D) (w : Wh D x) (h0 : 0 ≤ x) (h1 : x ≤ 1) (hn : D < 2 ^ n) : Sz n x := ab_sz (B := 1) hD w (by simpa using ab_01 h0 h1) (by decide) (by omega)
theorem KdOk.cpS {n W : Nat} {k : List Tri} (h : KdOk n W k) (hW : W ≤ 2 ^ 31) (p : Tri → Bool) : Sz 40 (Fp.cp k p) := by
  obtain ⟨w, h0, h1⟩ := h.cp p
  exact sz01 h.W0 w h0 h1 (by omega)
/-- a part of a kind is a kind -/
theorem KdOk.sub {n W : Nat} {k l : List Tri} (h : KdOk n W k) (s : l.Sublist k) : KdOk n W l where
  W0 := h.W0
  len := Nat.le_trans s.length_le h.len
  st := fun t ht => h.st t (s.subset ht)
  c := fun t ht => h.c t (s.subset ht)
  sum := by
    have hc : ∀ t ∈ k, 0 ≤ t.c := fun t ht => by have := (h.c t ht).2.1; grind
    have h1 := h.sum
    have : ∀ {k l : List Tri}, l.Sublist k → (∀ t ∈ k, 0 ≤ t.c) → (l.map (·.c)).sum ≤ (k.map (·.c)).sum := by
      intro k l s
      induction s with
      | slnil => exact fun _ => Rat.le_refl
      | cons a _ ih =>
        intro h
        have h1 := ih fun t ht => h t (List.mem_cons_of_mem _ ht)
        have h2 := h a List.mem_cons_self
        rw [List.map_cons, List.sum_cons]
        grind
      | cons_cons a _ ih =>
        intro h
        have h1 := ih fun t ht => h t (List.mem_cons_of_mem _ ht)
        rw [List.map_cons, List.map_cons, List.sum_cons, List.sum_cons]
        grind
    have := this s hc
    grind
  rise := h.rise.sublist s
def pS (j : Nat) (t : Tri) : Bool := decide (t.st = j)
/-- the life of how long a kind lasts -/
def rowS (k : List Tri) : List Rat := (List.range 6).map fun j => cp k (pS (j + 1))
theorem KdOk.plain {n W : Nat} {k : List Tri} (h : KdOk n W k) (hW : W ≤ 2 ^ 31) : Plain ⟨rowS k, 0⟩ := by
  refine ⟨fun x hx => ?_, sz01 (D := 1) (by decide) wh_0 Rat.le_refl (by show (0 : Rat) ≤ 1; decide) (by decide)⟩
  obtain ⟨j, _, rfl⟩ := List.mem_map.mp hx
  exact (h.cpS hW _).up (by decide)
theorem lowest_big {p : Int} {q : Nat} {f : Feed} (hq : 0 < q) (h2 : q < 2 ^ 8500) : F_q_lowest [.dat (.int p), .dat (.int q)] f = .ok (.dat (enc (mkRat p q))) f := by
  have hg : 0 < Nat.gcd p.natAbs q := Nat.gcd_pos_of_pos_right _ hq
  have hl : Nat.gcd p.natAbs q ≤ q := Nat.gcd_le_right _ hq
  have d1 : ∀ c : Int, oDiv (.int c) (.int (Nat.gcd p.natAbs q : Nat)) = some (.dat (.int (c / (Nat.gcd p.natAbs q : Nat)))) := fun c => oDiv_int (by omega) (Nat.lt_trans (log2_small (k := 8500) (by rw [Int.natAbs_natCast]; omega) (by decide)) (by decide))
  rw [← low_eq hq]
  apply ev_is
  rw [u_q_lowest, ev_dEnd]
  unfold S_q_lowest
  simp
  refine ev_while (I := fun n ρ g => g = f ∧ ∃ x y : Nat, n = y ∧ ρ = [.dat (.int p), .dat (.int q), .dat (.int x), .dat (.int y)] ∧ Nat.gcd x y = Nat.gcd p.natAbs q) (n := q) ?_ ⟨rfl, p.natAbs, q, rfl, rfl, rfl⟩
  rintro n ρ g ⟨rfl, x, y, rfl, rfl, e⟩
  simp
  refine ⟨fun h => ?_, fun h => ?_⟩
  · have hy : (0 : Int) < n := by omega
    simp [oMod_int hy]
    exact ⟨x % n, Nat.mod_lt _ (by omega), n, ⟨rfl, by omega⟩, by rw [← e, Nat.gcd_comm x n, Nat.gcd_rec n x]; exact Nat.gcd_comm _ _⟩
  · subst h
    rw [Nat.gcd_zero_right] at e
    subst e
    simp [d1, low]
theorem q_add_q {n : Nat} {x y : Rat} {f : Feed} (hx : Sz n x) (hy : Sz n y) (hn : n ≤ 4000) : F_q_add [.dat (enc x), .dat (enc y)] f = .ok (.dat (enc (x + y))) f := by
  have m1 : oMul (.int x.num) (.int (y.den : Nat)) = some (.dat (.int (x.num * y.den))) := oMul_int (mulC_sz hx.num (by rw [Int.natAbs_natCast]; exact hy.den) hn)
  have m2 : oMul (.int y.num) (.int (x.den : Nat)) = some (.dat (.int (y.num * x.den))) := oMul_int (mulC_sz hy.num (by rw [Int.natAbs_natCast]; exact hx.den) hn)
  have m3 : oMul (.int (x.den : Nat)) (.int (y.den : Nat)) = some (.dat (.int ((x.den * y.den : Nat) : Int))) := by
    rw [oMul_int (mulC_sz (by rw [Int.natAbs_natCast]; exact hx.den) (by rw [Int.natAbs_natCast]; exact hy.den) hn), Int.natCast_mul]
  have b3 := prod_lt hx.den hy.den hn
  have kk : (2 : Nat) ^ 8000 ≤ 2 ^ 8500 := by decide
  have p := lowest_big (f := f) (p := x.num * y.den + y.num * x.den) (Nat.mul_pos x.den_pos y.den_pos) (by omega)
  rw [add_eq] at p
  apply ev_is
  rw [u_q_add, ev_dEnd]
  unfold S_q_add
  rw [Int.natCast_mul] at m3 p
  simp [m1, m2, m3, p]
theorem KdOk.g {n W : Nat} {k : List Tri} (h : KdOk n W k) {t : Tri} (ht : t ∈ k) : G W 1 0 t.c := G.of (h.c t ht).1 (Nat.dvd_refl _) (by have := (h.c t ht).2.1; grind) (h.c t ht).2.2
end Fp
namespace Fp
open PySem PySem.Spec L2 Dn
/-- a bounded life of weights -/
abbrev bnd (ws : List Nat) (T : Nat) : PyData := .tuple [.tuple (ws.map fun w => low (w : Nat) T), rat 0 1]
end Fp
namespace Fp
open PySem PySem.Spec L2 Dn
section
variable {t : Tri} {k : List Tri} {ks : List (List Tri)} {f : Feed} {n V : Nat}
/-- kinds of three figures at most -/
structure GoodK (n : Nat) (k : List Tri) : Prop where
  ok : ∃ V, V < 1000 ∧ KdOk n V k
  n4 : n ≤ 4
theorem GoodK.tr (h : GoodK n k) : ∀ t ∈ k, TrOk t := fun t ht => by
  obtain ⟨V, hV, ok⟩ := h.ok
  obtain ⟨a1, a6, an⟩ := ok.st t ht
  obtain ⟨w, c0, c1⟩ := ok.c t ht
  have d := Nat.le_of_dvd ok.W0 (w.dvd ok.W0)
  have := h.n4
  exact ⟨by omega, by omega, Rat.le_of_lt c0, c1, by omega⟩
end
end Fp
namespace Fp
open PySem PySem.Spec L2 Dn
theorem bounded_v2_ok {t : Int} {f : Feed} {full : Bool} (hF : Fd t f) (ht : t < 2 ^ 30) (t0 : 0 ≤ t) : Ev (F_q_bounded_v2 [.feed, .dat (.int 6), .dat (.bool full)] f) (fun rv f2 => ∃ ws T, rv = .dat (bnd ws T) ∧ ws.length ≤ 6 ∧ ws.sum ≤ T ∧ 0 < T ∧ T ≤ 100 ∧ Fd (t + 20) f2) := by
  rw [u_q_bounded_v2, ev_dEnd]
  unfold S_q_bounded_v2
  simp
  refine Ev.drawn (draw_v3_ok (by decide) (by decide) hF (by omega)) fun n f1 n0 n7 hF1 => ?_
  simp [smallI_ok n0 (show n < 2 ^ 60 by omega)]
  refine ev_lc (I := fun i acc g => ∃ ns : List Nat, acc = ns.map (fun (n : Nat) => .int n) ∧ ns.length = i ∧ (∀ w ∈ ns, w ≤ 6) ∧ Fd (t + 1 + 2 * i) g) (by rw [range_len]; omega) ?_ ?_ ⟨[], rfl, rfl, fun w hw => by simp at hw, by simpa using hF1⟩
  · rintro i d acc g hd ⟨ns, rfl, hl, hw, hG⟩
    obtain ⟨rfl, hi⟩ := range_at hd
    refine ⟨_, rfl, ?_⟩
    simp
    refine Ev.drawn (draw_v3_ok (by decide) (by decide) hG (by omega)) fun a g1 a0 a7 hG1 => ?_
    refine Ev.drawn (draw_v3_ok (by decide) (by decide) hG1 (by omega)) fun b g2 b0 b3 hG2 => ?_
    have m1 : ∀ c : Int, c.natAbs < 2 → oMul (.int a) (.int c) = some (.dat (.int (a * c))) := fun c hc => oMul_int (mulC_small (k := 10) (l := 10) (by omega) (by omega) (by decide))
    have m2 := m1 (if 0 < b then 1 else 0) (by split <;> decide)
    simp [m2]
    refine ⟨ns ++ [(a * if 0 < b then 1 else 0).toNat], ?_, by simp [hl], ?_, hG2.up (by omega)⟩
    · simp
      split <;> omega
    · intro w h
      rcases List.mem_append.mp h with h | h
      · exact hw w h
      · simp at h
        subst h
        split <;> omega
  · rintro acc g ⟨ns, rfl, hl, hw, hG⟩
    rw [range_len] at hl hG
    refine Ev.drawn (draw_v3_ok (by decide) (by decide) hG (by omega)) fun c g1 c0 c4 hG1 => ?_
    obtain ⟨k, hk, ek⟩ : ∃ k : Nat, k ≤ 4 ∧ atI [PyData.int 0, PyData.int 0, PyData.int 1, PyData.int 4] c = some (.int k) := by
      obtain rfl | rfl | rfl | rfl : c = 0 ∨ c = 1 ∨ c = 2 ∨ c = 3 := by omega
      · exact ⟨0, by decide, rfl⟩
      · exact ⟨0, by decide, rfl⟩
      · exact ⟨1, by decide, rfl⟩
      · exact ⟨4, by decide, rfl⟩
    simp [ek]
    have key : ∀ (us : List Nat) (s4 : Slot) (T : Nat), us.length ≤ 1000 → 0 < T → T < 2 ^ 1000 → lcN (.one 7) cYes (cCall F_q_lowest [cVar 7, cVar 5]) [.feed, .dat (.int 6), .dat (.bool full), .dat (.list (us.map fun (n : Nat) => .int n)), s4, .dat (.int T), .emp, .emp] (us.map fun (n : Nat) => .int n) [] g1 = .ok (us.map fun (w : Nat) => low w T) g1 := by
      intro us s4 T h1 h2 h3
      refine lc_map (by omega) fun w hw => ⟨_, rfl, ?_⟩
      simp [lowest_ok h2 (Nat.lt_trans h3 (by decide))]
    have hsum : ∀ us : List Nat, (∀ w ∈ us, w ≤ 6) → us.length ≤ 6 → us.sum ≤ 36 := by
      intro us h1 h2
      have : us.sum ≤ us.length * 6 := by
        clear h2
        induction us with
        | nil => simp
        | cons a r ih =>
          have a1 := h1 a List.mem_cons_self
          have a2 := ih fun w hw => h1 w (List.mem_cons_of_mem _ hw)
          rw [List.sum_cons, List.length_cons]
          omega
      omega
    have hl6 : ns.length ≤ 6 := by omega
    have hs := hsum ns hw hl6
    cases full with
    | false =>
      have eT : max 1 ((ns.sum : Int) + k) = ((max 1 (ns.sum + k) : Nat) : Int) := by omega
      simp [eT, key ns (.dat (.int k)) (max 1 (ns.sum + k)) (by omega) (by omega) (Nat.lt_of_le_of_lt (show _ ≤ 100 by omega) (by decide))]
      exact ⟨ns, _, rfl, hl6, by omega, by omega, by omega, hG1.up (by omega)⟩
    | true =>
      have e5 : cutD (ns.map fun (n : Nat) => PyData.int n) none (some 5) = (ns.take 5).map fun (n : Nat) => PyData.int n := by
        rw [List.map_take]
        exact cutD_take (n := 5)
      have e6 : ((ns.take 5).map fun (n : Nat) => PyData.int n) ++ [.int 1] = (ns.take 5 ++ [1]).map fun (n : Nat) => PyData.int n := by simp
      have e7 : ((ns.take 5).map fun (n : Nat) => PyData.int n).length ≤ 99999 := by
        rw [List.length_map, List.length_take]
        omega
      have hu : (ns.take 5 ++ [1]).sum ≤ 36 ∧ (ns.take 5 ++ [1]).length ≤ 6 := by
        have hlen : (ns.take 5 ++ [1]).length ≤ 6 := by
          rw [List.length_append, List.length_take]
          show min 5 ns.length + 1 ≤ 6
          omega
        refine ⟨hsum _ (fun w h => ?_) hlen, hlen⟩
        rcases List.mem_append.mp h with h | h
        · exact hw w (List.mem_of_mem_take h)
        · simp at h
          omega
      have eT : max 1 ((ns.sum : Int)) = ((max 1 ns.sum : Nat) : Int) := by omega
      have eU : max 1 (((ns.take 5 ++ [1]).sum : Int)) = ((max 1 (ns.take 5 ++ [1]).sum : Nat) : Int) := by omega
      have k1 := key ns (.dat (.int 0)) (max 1 ns.sum) (by omega) (by omega) (Nat.lt_of_le_of_lt (show _ ≤ 100 by omega) (by decide))
      have k2 := key (ns.take 5 ++ [1]) (.dat (.int 0)) (max 1 (ns.take 5 ++ [1]).sum) (by omega) (by omega) (Nat.lt_of_le_of_lt (show _ ≤ 100 by omega) (by decide))
      have o2 := oSum_nats (ns := ns.take 5 ++ [1])
      generalize ns.take 5 ++ [1] = us at *
      simp only [oSum_nats, e5, e6, if_pos e7]
      simp [ev_ite]
      rw [eT, eU, k1, k2]
      obtain ⟨hu1, hu2⟩ := hu
      exact ⟨fun _ => ev_ok.mpr ⟨us, _, rfl, hu2, by omega, by omega, by omega, hG1.up (by omega)⟩, fun _ => ev_ok.mpr ⟨ns, _, rfl, hl6, by omega, by omega, by omega, hG1.up (by omega)⟩⟩
end Fp
namespace Fp
open PySem PySem.Spec L2 Dn
/-- the chances of one stretch behind another -/
def cv (L M : Life) (k : Nat) : Rat := rs (k - 1) fun j => ch L (j + 1) * ch M (k - (j + 1))
section
variable {W s W2 s2 m k : Nat} {L M : Life} {f : Feed}
end
/-- the second row -/
def yy (a x : Nat → Rat) (n : Nat) : Rat := rs n fun k => a k * x (n - 1 - k)
end Fp
namespace Fp
open PySem PySem.Spec L2 Dn
section
variable {W s W2 s2 m k : Nat} {L M : Life} {f : Feed}
end
end Fp
namespace Fp
open PySem PySem.Spec L2 Dn
def cov {α : Type} (z : α) (F : (Nat → α) → Nat → α) : Nat → List α
  | 0 => []
  | m + 1 => cov z F m ++ [F (fun q => (cov z F m).getD q z) m]
def cvv {α : Type} (z : α) (F : (Nat → α) → Nat → α) (m : Nat) : α := (cov z F (m + 1)).getD m z
section
variable {α : Type} {z : α} {F : (Nat → α) → Nat → α}
end
def kAt (ks : List (List Tri)) (i : Nat) : List Tri := ks.getD i []
def pairsK (ks : List (List Tri)) : List (Nat × Tri) := (List.range ks.length).flatMap fun i => (kAt ks i).map fun t => (i, t)
theorem getD_mem {ks : List (List Tri)} {i : Nat} (h : i < ks.length) : kAt ks i ∈ ks := by
  unfold kAt
  rw [List.getD_eq_getElem?_getD, List.getElem?_eq_getElem h]
  exact List.getElem_mem h
/-- what a triple gives to kind j at beat m -/
def cb (R : Nat → Nat → Rat) (m : Nat) (p : Nat × Tri) (j : Nat) : Rat := if p.2.nx = j ∧ p.2.st ≤ m then R (m - p.2.st) p.1 * p.2.c else 0
def sb (R : Nat → Nat → Rat) (m : Nat) (l : List (Nat × Tri)) (j : Nat) : Rat := (l.map fun p => cb R m p j).sum
def rb (R : Nat → Nat → Rat) (m : Nat) (ks : List (List Tri)) (j : Nat) : Rat := sb R m (pairsK ks) j
/-- a row of ratios -/
def rw' (n : Nat) (g : Nat → Rat) : List PyData := (List.range n).map fun j => enc (g j)
def kpF (ks : List (List Tri)) (a : Nat) (R : Nat → Nat → Rat) (m : Nat) : Nat → Rat := if m = 0 then fun j => if j = a then 1 else 0 else rb R m ks
/-- the chance that a part of kind j is put at beat m, the first one of kind a -/
def kp (ks : List (List Tri)) (a : Nat) : Nat → Nat → Rat := cvv (fun _ => 0) (kpF ks a)
section
variable {W a : Nat} {ks : List (List Tri)} {f : Feed}
@[simp] theorem e_CallLk {F : Dn.Fn} {xs : List Ex} {i : Nat} {ρ : Rho} {f : Feed} : cCallL F xs i ρ f = (cVals xs ρ f).bind fun as f1 => match ρ[i]? with
  | some (.own ds) => (F (as ++ [.dat (.list ds)]) f1).bind keepF
  | _ => .no := nr rfl
end
end Fp
namespace Fp
open PySem PySem.Spec L2 Dn
end Fp
namespace Fp
open PySem PySem.Spec L2 Dn
section
variable {n : Nat} {T : Nat → Nat → Nat → Rat} {P Q : Nat → Nat → Nat → Rat}
end
end Fp
namespace Fp
open PySem PySem.Spec L2 Dn
def pT (d j : Nat) (t : Tri) : Bool := decide (t.nx = j) && decide (t.st = d + 1)
/-- the chance that kind i lasts d + 1 and leads to j -/
def tk (ks : List (List Tri)) (d i j : Nat) : Rat := cp (kAt ks i) (pT d j)
/-- by the first stretch -/
def qs (R : Nat → Nat → Rat) (m : Nat) (k : List Tri) : Rat := (k.map fun t => if t.st ≤ m then t.c * R (m - t.st) t.nx else 0).sum
def qpF (ks : List (List Tri)) (j : Nat) (R : Nat → Nat → Rat) (m a : Nat) : Rat := (if m = 0 ∧ j = a then 1 else 0) + qs R m (kAt ks a)
def qp (ks : List (List Tri)) (j : Nat) : Nat → Nat → Rat := cvv (fun _ => 0) (qpF ks j)
section
variable {W : Nat} {ks : List (List Tri)}
theorem st1 (h : KsOk W ks) (a : Nat) : ∀ t ∈ kAt ks a, 1 ≤ t.st ∧ t.nx < ks.length := fun t ht => by
  by_cases c : a < ks.length
  · have := (h.ok _ (getD_mem c)).st t ht
    exact ⟨this.1, this.2.2⟩
  · unfold kAt at ht
    rw [List.getD_eq_getElem?_getD, List.getElem?_eq_none (by omega)] at ht
    cases ht
/-- the chance that kind j lasts longer -/
def pL (g : Nat) (t : Tri) : Bool := decide (t.st ≤ g)
def stl (ks : List (List Tri)) (j g : Nat) : Rat := 1 - cp (kAt ks j) (pL g)
def stands (ks : List (List Tri)) (a m j : Nat) : Rat := rs (m + 1) fun g => kp ks a (m - g) j * stl ks j g
end
end Fp
namespace Fp
open PySem PySem.Spec L2 Dn
section
variable {n : Nat} {T : Nat → Nat → Nat → Rat} {P Q : Nat → Nat → Nat → Rat} {U : Nat → Nat → Rat}
end
def foF (ks : List (List Tri)) (a o : Nat) (R : Nat → Nat → Rat) (m : Nat) : Nat → Rat := if m = 0 then fun j => if j = a then 1 else 0 else fun j => if j = o then 0 else rb R m ks j
def foR (ks : List (List Tri)) (a o : Nat) : Nat → Nat → Rat := cvv (fun _ => 0) (foF ks a o)
/-- the chance that the first one of kind o behind beat 0 is put at m -/
def fo (ks : List (List Tri)) (a o m : Nat) : Rat := rb (foR ks a o) m ks o
section
variable {W a o : Nat} {ks : List (List Tri)} {f : Feed}
def ft (R : Nat → Nat → Rat) (o m : Nat) (t : Tri) : Rat := if t.nx = o then (if t.st = m then t.c else 0) else if t.st < m then t.c * R (m - t.st) t.nx else 0
def ffF (ks : List (List Tri)) (o : Nat) (R : Nat → Nat → Rat) (m a : Nat) : Rat := ((kAt ks a).map (ft R o m)).sum
def ff (ks : List (List Tri)) (o : Nat) : Nat → Nat → Rat := cvv (fun _ => 0) (ffF ks o)
end
end Fp
namespace Fp
open PySem PySem.Spec L2 Dn
end Fp
namespace Fp
open PySem PySem.Spec L2 Dn
theorem q_by_q {n : Nat} {x y : Rat} {f : Feed} (hx : Sz n x) (hy : Sz n y) (hn : n ≤ 4000) : F_q_by [.dat (enc x), .dat (enc y)] f = .ok (.dat (enc (x * y))) f := by
  have m1 : oMul (.int x.num) (.int y.num) = some (.dat (.int (x.num * y.num))) := oMul_int (mulC_sz hx.num hy.num hn)
  have m3 : oMul (.int (x.den : Nat)) (.int (y.den : Nat)) = some (.dat (.int (x.den * y.den))) := oMul_int (mulC_sz (by rw [Int.natAbs_natCast]; exact hx.den) (by rw [Int.natAbs_natCast]; exact hy.den) hn)
  have b3 := prod_lt hx.den hy.den hn
  have kk : (2 : Nat) ^ 8000 ≤ 2 ^ 8500 := by decide
  have p := lowest_big (f := f) (p := x.num * y.num) (Nat.mul_pos x.den_pos y.den_pos) (by omega)
  rw [Int.natCast_mul, mul_eq] at p
  apply ev_is
  rw [u_q_by, ev_dEnd]
  unfold S_q_by
  simp [m1, m3, p]
/-- puts by the first stretch, partly -/
def qd (ks : List (List Tri)) (m a : Nat) (l : List Tri) (j : Nat) : Rat := (if m = 0 ∧ j = a then 1 else 0) + qs (qp ks j) m l
section
variable {W : Nat} {ks : List (List Tri)} {f : Feed}
end
end Fp
namespace Fp
open PySem PySem.Spec L2 Dn
section
variable {W : Nat} {ks : List (List Tri)} {f : Feed}
end
end Fp
namespace Fp
open PySem PySem.Spec L2 Dn
def lifeC (ws : List Nat) (T : Nat) : Life := ⟨ws.map fun (w : Nat) => mkRat (w : Nat) T, 0⟩
theorem bnd_lifeC {ws : List Nat} {T : Nat} (hT : 0 < T) : bnd ws T = lifeD (lifeC ws T) := by
  unfold lifeD lifeC
  rw [List.map_map]
  show PyData.tuple [.tuple (ws.map fun w => low (w : Nat) T), rat 0 1] = PyData.tuple [.tuple (ws.map (enc ∘ fun (w : Nat) => mkRat (w : Nat) T)), enc 0]
  rw [List.map_congr_left (g := enc ∘ fun (w : Nat) => mkRat (w : Nat) T) fun w _ => low_eq hT]
  rfl
theorem lifeC_ok {ws : List Nat} {T : Nat} (hT : 0 < T) (hs : ws.sum ≤ T) : LOk T 1 (lifeC ws T) := by
  refine ⟨hT, by decide, fun x hx => ?_, wh_0, by show (0 : Rat) ≤ 0; decide, by show (0 : Rat) < 1; decide, fun _ => rfl, ?_⟩
  · obtain ⟨w, hw, rfl⟩ := List.mem_map.mp hx
    have := Nat.le_trans (mem_le_sum hw) hs
    exact ⟨wh_mk hT, (frac01 hT this).1, (frac01 hT this).2⟩
  · have a := sum_mk (W := T) (B := 1) hT ws
    simp only [Nat.one_mul] at a
    unfold tot
    show (ws.map fun (w : Nat) => mkRat (w : Nat) T).sum + lastR (lifeC ws T) * 0 / (1 - 0) ≤ 1
    rw [Rat.mul_zero]
    have e0 : (0 : Rat) / (1 - 0) = 0 := by decide +kernel
    rw [e0, Rat.add_zero]
    refine le_one_of (y := (T : Rat) - (ws.sum : Nat)) hT ?_ ?_
    · have : ((1 : Nat) : Rat) = 1 := rfl
      rw [this] at a
      grind
    · have : ((ws.sum : Nat) : Rat) ≤ (T : Rat) := Rat.natCast_le_natCast.mpr hs
      grind
section
variable {V : Nat} {L : Life} {f : Feed}
end
section
variable {W a o N : Nat} {ks : List (List Tri)} {f : Feed}
end
end Fp
namespace Fp
open PySem PySem.Spec L2 Dn
section
variable {W s : Nat} {L : Life} {f : Feed}
theorem wh_den {D : Nat} {x : Rat} (hD : 0 < D) (h : Wh D x) : x.den ≤ D := Nat.le_of_dvd hD (h.dvd hD)
theorem LOk.good (h : LOk W s L) (hW : W < 1000) (hs : s < 1000) (hl : L.row.length ≤ 160) : Good L where
  row := ⟨fun x hx => (h.row x hx).2, fun x hx => by have := wh_den h.W0 (h.row x hx).1; omega, hl⟩
  s0 := h.st0
  s1 := h.st1
  sd := by have := wh_den h.s0 h.step; omega
  emp := h.emp
  tot := fun _ => h.tot1
theorem q_by_t {n : Nat} {x y : Rat} {f : Feed} (hx : Sz n x) (hy : Sz n y) (hn : n ≤ 4000) : F_q_by [.dat (enc x), .dat (enc y)] f = .ok (.dat (enc (x * y))) f := by
  have m1 : oMul (.int x.num) (.int y.num) = some (.dat (.int (x.num * y.num))) := oMul_int (mulC_sz hx.num hy.num hn)
  have m3 : oMul (.int (x.den : Nat)) (.int (y.den : Nat)) = some (.dat (.int (x.den * y.den))) := oMul_int (mulC_sz (by rw [Int.natAbs_natCast]; exact hx.den) (by rw [Int.natAbs_natCast]; exact hy.den) hn)
  have b3 := prod_lt hx.den hy.den hn
  have kk : (2 : Nat) ^ 8000 ≤ 2 ^ 8500 := by decide
  have p := lowest_big (f := f) (p := x.num * y.num) (Nat.mul_pos x.den_pos y.den_pos) (by omega)
  rw [Int.natCast_mul, mul_eq] at p
  have x0 : ∀ x : Rat, oIx (enc x) (.int 0) = some (.dat (.int x.num)) := fun _ => rfl
  have x1 : ∀ x : Rat, oIx (enc x) (.int 1) = some (.dat (.int (x.den : Nat))) := fun _ => rfl
  have a1 := x0 x
  have a2 := x1 x
  have a3 := x0 y
  have a4 := x1 y
  apply ev_is
  rw [u_q_by, ev_dEnd]
  unfold S_q_by
  generalize enc (x * y) = z at *
  generalize enc x = ex at *
  generalize enc y = ey at *
  generalize (x.num * y.num : Int) = A at *
  generalize ((x.den : Int) * (y.den : Int)) = B at *
  simp [a1, a2, a3, a4, m1, m3, p]
/-- so much less of each chance -/
def lessL (L : Life) (c : Rat) : Life := ⟨L.row.map (· * c), L.step⟩
theorem sum_mulR (c : Rat) : ∀ l : List Rat, (l.map (· * c)).sum = l.sum * c
  | [] => by show (0 : Rat) = 0 * c; grind
  | a :: r => by
    rw [List.map_cons, List.sum_cons, List.sum_cons, sum_mulR c r]
    grind
theorem lessL_ok {k : Nat} {c : Rat} (h : LOk W s L) (hr : L.row ≠ []) (hk : 0 < k) (w : Wh k c) (c0 : 0 ≤ c) (c1 : c ≤ 1) : LOk (W * k) s (lessL L c) where
  W0 := Nat.mul_pos h.W0 hk
  s0 := h.s0
  row := fun x hx => by
    obtain ⟨y, hy, rfl⟩ := List.mem_map.mp hx
    obtain ⟨a, b, d⟩ := h.row y hy
    refine ⟨a.mul w, Rat.mul_nonneg b c0, ?_⟩
    have := Rat.mul_le_mul_of_nonneg_left c1 b
    grind
  step := h.step
  st0 := h.st0
  st1 := h.st1
  emp := fun z => absurd (List.map_eq_nil_iff.mp z) hr
  tot1 := by
    have e : tot (lessL L c) = tot L * c := by
      unfold tot lessL
      have l : lastR ⟨L.row.map (· * c), L.step⟩ = lastR L * c := by
        unfold lastR
        have := getLastD_map (fun x : Rat => x * c) 0 L.row
        rw [Rat.zero_mul] at this
        exact this
      rw [l]
      show (L.row.map (· * c)).sum + _ = _
      rw [sum_mulR, Rat.div_def, Rat.div_def]
      grind
    rw [e]
    have t0 : 0 ≤ tot L := by
      have nn : ∀ l : List Rat, (∀ x ∈ l, 0 ≤ x) → 0 ≤ l.sum := by
        intro l
        induction l with
        | nil => intro _; exact Rat.le_refl
        | cons a r ih =>
          intro q
          have := ih fun x hx => q x (List.mem_cons_of_mem _ hx)
          have := q a List.mem_cons_self
          rw [List.sum_cons]
          grind
      have a := nn L.row fun x hx => (h.row x hx).2.1
      have b := (h.row _ (lastR_mem hr)).2.1
      have p : 0 < 1 - L.step := by have := h.st1; grind
      have c : 0 ≤ lastR L * L.step / (1 - L.step) := by
        rw [Rat.div_def]
        exact Rat.mul_nonneg (Rat.mul_nonneg b h.st0) (Rat.le_of_lt (Rat.inv_pos.mpr p))
      unfold tot
      grind
    have := Rat.mul_le_mul_of_nonneg_left c1 t0
    have := h.tot1
    grind
theorem ev_stq {s s2 : Sm} {ρ : Rho} {f : Feed} {P : Ctl → Feed → Prop} (Q : Rho → Feed → Prop) (h : ∀ Q' : Rho → Feed → Prop, (∀ ρ g, Q ρ g → Q' ρ g) → Ev (s ρ f) fun c g => ∃ ρ2, c = .nx ρ2 ∧ Q' ρ2 g) (k : ∀ ρ2 g, Q ρ2 g → Ev (s2 ρ2 g) P) : Ev (sSeq s s2 ρ f) P := ev_step Q (h Q fun _ _ h => h) k
theorem stepped_ok {t : Int} (hF : Fd t f) (ht : t < 2 ^ 30) (t0 : 0 ≤ t) : Ev (F_q_stepped [.feed] f) fun rv g => ∃ (L : Life) (W s : Nat), rv = .dat (lifeD L) ∧ LOk W s L ∧ W ≤ 100 ∧ s ≤ 9 ∧ L.row ≠ [] ∧ L.row.length ≤ 3 ∧ Fd (t + 10) g := by
  rw [u_q_stepped, ev_dEnd]
  unfold S_q_stepped
  refine ev_stq (fun ρ g => ∃ b : Nat, 2 ≤ b ∧ b ≤ 5 ∧ ρ = [.feed, .dat (.int (b : Nat)), .emp, .emp, .emp, .emp, .emp, .emp, .emp] ∧ Fd (t + 1) g) ?_ ?_
  · intro Q' hQ
    simp
    refine Ev.drawn (draw_v3_ok (s := 4) (by decide) (by decide) hF (by omega)) fun a g a0 a4 hG => ?_
    obtain ⟨a, rfl⟩ := Int.eq_ofNat_of_zero_le a0
    have e : (2 : Int) + (a : Nat) = ((2 + a : Nat) : Int) := by omega
    simp [-Int.natCast_add, e]
    exact hQ _ _ ⟨2 + a, by omega, by omega, rfl, hG⟩
  rintro _ f ⟨b, b2, b5, rfl, hF1⟩
  refine ev_stq (fun ρ g => ∃ a : Nat, 1 ≤ a ∧ a < b ∧ ρ = [.feed, .dat (.int (b : Nat)), .dat (.int (a : Nat)), .emp, .emp, .emp, .emp, .emp, .emp] ∧ Fd (t + 2) g) ?_ ?_
  · intro Q' hQ
    have e1 : (b : Int) - 1 = ((b - 1 : Nat) : Int) := by omega
    simp [e1]
    refine Ev.drawn (draw_v3_ok (s := ((b - 1 : Nat) : Int)) (by omega) (by omega) hF1 (by omega)) fun a g a0 a4 hG => ?_
    obtain ⟨a, rfl⟩ := Int.eq_ofNat_of_zero_le a0
    have e : (1 : Int) + (a : Nat) = ((1 + a : Nat) : Int) := by omega
    simp [-Int.natCast_add, e]
    exact hQ _ _ ⟨1 + a, by omega, by omega, rfl, hG.up (by omega)⟩
  rintro _ f ⟨a, a1, ab, rfl, hF2⟩
  obtain ⟨x, ex⟩ : ∃ x, x = mkRat (a : Nat) b := ⟨_, rfl⟩
  have x01 := frac01 (W := b) (i := a) (by omega) (by omega)
  have xlt := frac_lt (W := b) (i := a) (by omega) ab
  rw [← ex] at x01 xlt
  have xd : x.den ≤ b := wh_den (by omega) (by rw [ex]; exact wh_mk (by omega))
  obtain ⟨p, ep⟩ := Int.eq_ofNat_of_zero_le (Rat.num_nonneg.mpr x01.1)
  obtain ⟨q, eq⟩ : ∃ q, q = x.den := ⟨_, rfl⟩
  have pq : p < q := by
    have := (Rat.lt_iff x 1).mp xlt
    simp at this
    omega
  have xs : x = mkRat (p : Nat) q := by
    rw [eq, ← ep]
    exact (Rat.mkRat_self x).symm
  have lq : F_q_lowest [.dat (.int (a : Nat)), .dat (.int (b : Nat))] f = .ok (.dat (enc x)) f := by
    rw [ex]
    exact lowest_big (by omega) (Nat.lt_of_le_of_lt b5 (by decide))
  refine ev_step (fun ρ g => g = f ∧ ρ = [.feed, .dat (.int (b : Nat)), .dat (.int (a : Nat)), .dat (enc x), .emp, .emp, .emp, .emp, .emp]) (by
    generalize enc x = X at *
    simp [lq]) ?_
  rintro _ f ⟨rfl, rfl⟩
  refine ev_stq (fun ρ g => ∃ us : List Nat, us ≠ [] ∧ us.length ≤ 3 ∧ (∀ w ∈ us, w ≤ 3) ∧ 1 ≤ us.getLastD 0 ∧ ρ = [.feed, .dat (.int (b : Nat)), .dat (.int (a : Nat)), .dat (enc x), .own (us.map fun (n : Nat) => .int n), .emp, .emp, .emp, .emp] ∧ Fd (t + 6) g) ?_ ?_
  · intro Q' hQ
    generalize enc x = X at *
    simp
    refine Ev.drawn (draw_v3_ok (s := 3) (by decide) (by decide) hF2 (by omega)) fun m g m0 m3 hG => ?_
    obtain ⟨m, rfl⟩ := Int.eq_ofNat_of_zero_le m0
    simp [smallI_ok (n := (m : Int)) (by omega) (by omega)]
    refine ev_lc (I := fun i acc g => ∃ ns : List Nat, acc = ns.map (fun (n : Nat) => .int n) ∧ ns.length = i ∧ (∀ w ∈ ns, w ≤ 3) ∧ Fd (t + 3 + i) g) (by rw [range_len]; omega) ?_ ?_ ⟨[], rfl, rfl, fun w hw => (by cases hw), hG.up (by omega)⟩
    · rintro i d acc g hd ⟨ns, rfl, hl, hw, hG⟩
      obtain ⟨rfl, hi⟩ := range_at hd
      refine ⟨_, rfl, ?_⟩
      simp
      refine Ev.drawnE (draw_v3_ok (s := 4) (by decide) (by decide) hG (by omega)) fun c g c0 c4 hG2 => ?_
      obtain ⟨c, rfl⟩ := Int.eq_ofNat_of_zero_le c0
      refine ⟨_, rfl, ns ++ [c], by simp, by simp [hl], fun w hw2 => ?_, hG2.up (by omega)⟩
      rcases List.mem_append.mp hw2 with hw2 | hw2
      · exact hw w hw2
      · rw [List.mem_singleton.mp hw2]
        omega
    · rintro acc g ⟨ns, rfl, hl, hw, hG⟩
      rw [range_len] at hl hG
      refine Ev.drawn (draw_v3_ok (s := 3) (by decide) (by decide) hG (by omega)) fun c g c0 c4 hG2 => ?_
      obtain ⟨c, rfl⟩ := Int.eq_ofNat_of_zero_le c0
      have e : (1 : Int) + (c : Nat) = ((1 + c : Nat) : Int) := by omega
      have ll : (ns.map fun (n : Nat) => PyData.int n).length + 1 ≤ 100000 := by rw [List.length_map]; omega
      have hQ := hQ [.feed, .dat (.int (b : Nat)), .dat (.int (a : Nat)), .dat X, .own ((ns ++ [1 + c]).map fun (n : Nat) => .int n), .emp, .emp, .emp, .emp] g ⟨ns ++ [1 + c], by simp, by simp; omega, fun w hw2 => by
        rcases List.mem_append.mp hw2 with hw2 | hw2
        · exact hw w hw2
        · rw [List.mem_singleton.mp hw2]
          omega, by simp, rfl, hG2.up (by omega)⟩
      rw [List.map_append] at hQ
      have hQ : Q' [.feed, .dat (.int (b : Nat)), .dat (.int (a : Nat)), .dat X, .own ((ns.map fun (n : Nat) => PyData.int n) ++ [.int ((1 + c : Nat) : Int)]), .emp, .emp, .emp, .emp] g := hQ
      generalize (ns.map fun (n : Nat) => PyData.int n) = N at *
      simp [-Int.natCast_add, e, show N.length ≤ 99999 by omega]
      exact hQ
  rintro _ f ⟨us, une, ul, uw, ulast, rfl, hF3⟩
  refine ev_step (fun ρ g => g = f ∧ ρ = [.feed, .dat (.int (b : Nat)), .dat (.int (a : Nat)), .dat (enc x), .dat (.list (us.map fun (n : Nat) => .int n)), .emp, .emp, .emp, .emp]) (by
    generalize enc x = X at *
    generalize (us.map fun (n : Nat) => PyData.int n) = N at *
    simp) ?_
  rintro _ f ⟨rfl, rfl⟩
  have i0 : oIx (enc x) (.int 0) = some (.dat (.int (p : Nat))) := by
    show some (RV.dat (.int x.num)) = _
    rw [ep]
  have i1 : oIx (enc x) (.int 1) = some (.dat (.int (q : Nat))) := by rw [eq]; rfl
  have rest : (q : Int) - (p : Int) = ((q - p : Nat) : Int) := by omega
  refine ev_step (fun ρ g => g = f ∧ ρ = [.feed, .dat (.int (b : Nat)), .dat (.int (a : Nat)), .dat (enc x), .dat (.list (us.map fun (n : Nat) => .int n)), .dat (.int ((q - p : Nat) : Int)), .emp, .emp, .emp]) (by
    generalize enc x = X at *
    generalize (us.map fun (n : Nat) => PyData.int n) = N at *
    simp [i0, i1, rest]) ?_
  rintro _ f ⟨rfl, rfl⟩
  have us9 : us.sum ≤ 9 := by
    have : ∀ l : List Nat, (∀ w ∈ l, w ≤ 3) → l.sum ≤ 3 * l.length := by
      intro l
      induction l with
      | nil => intro _; exact Nat.le_refl _
      | cons c r ih =>
        intro h
        have := ih fun w hw => h w (List.mem_cons_of_mem _ hw)
        have := h c List.mem_cons_self
        rw [List.sum_cons, List.length_cons]
        omega
    have := this us uw
    omega
  obtain ⟨T, eT⟩ : ∃ T, T = (q - p) * us.sum + p * us.getLastD 0 := ⟨_, rfl⟩
  have lastm : us.getLastD 0 ∈ us := by
    rw [List.getLastD_eq_getLast?, List.getLast?_eq_getLast une]
    exact List.getLast_mem une
  have l3 := uw _ lastm
  have q5 : q ≤ 5 := by omega
  have T0 : 0 < T := by
    have : 1 ≤ us.sum := Nat.le_trans ulast (mem_le_sum lastm)
    have : 1 * 1 ≤ (q - p) * us.sum := Nat.mul_le_mul (by omega) this
    omega
  have T100 : T ≤ 100 := by
    have : (q - p) * us.sum ≤ 5 * 9 := Nat.mul_le_mul (by omega) us9
    have : p * us.getLastD 0 ≤ 5 * 3 := Nat.mul_le_mul (by omega) l3
    omega
  refine ev_step (fun ρ g => g = f ∧ ρ = [.feed, .dat (.int (b : Nat)), .dat (.int (a : Nat)), .dat (enc x), .dat (.list (us.map fun (n : Nat) => .int n)), .dat (.int ((q - p : Nat) : Int)), .dat (.int (T : Nat)), .emp, .emp]) ?_ ?_
  · have sm : oSum (.list (us.map fun (n : Nat) => .int n)) = some (.dat (.int (us.sum : Nat))) := oSum_nats
    have lx : oIx (.list (us.map fun (n : Nat) => .int n)) (.int (-1)) = some (.dat (.int (us.getLastD 0 : Nat))) := by
      obtain ⟨ys, y, ey⟩ : ∃ ys y, us = ys ++ [y] := ⟨us.dropLast, us.getLast une, (List.dropLast_concat_getLast une).symm⟩
      rw [e_ix_list, ey, List.map_append, List.map_cons, List.map_nil, L2.atI_last]
      simp
    have m1 : oMul (.int (us.sum : Nat)) (.int ((q - p : Nat) : Int)) = some (.dat (.int ((us.sum * (q - p) : Nat) : Int))) := oMul_nat (Nat.lt_of_le_of_lt us9 (by decide)) (Nat.lt_of_le_of_lt (show q - p ≤ 5 by omega) (by decide))
    have m2 : oMul (.int (us.getLastD 0 : Nat)) (.int (p : Nat)) = some (.dat (.int ((us.getLastD 0 * p : Nat) : Int))) := oMul_nat (Nat.lt_of_le_of_lt l3 (by decide)) (Nat.lt_of_le_of_lt (show p ≤ 5 by omega) (by decide))
    have eT2 : ((us.sum * (q - p) : Nat) : Int) + ((us.getLastD 0 * p : Nat) : Int) = (T : Nat) := by
      rw [eT, Nat.mul_comm us.sum, Nat.mul_comm (us.getLastD 0)]
      omega
    generalize enc x = X at *
    generalize PyData.list (us.map fun (n : Nat) => PyData.int n) = N at *
    generalize us.sum * (q - p) = A at *
    generalize us.getLastD 0 * p = B at *
    generalize us.getLastD 0 = C at *
    generalize us.sum = D at *
    simp [-Int.natCast_mul, sm, lx, i0, m1, m2, eT2]
  rintro _ f ⟨rfl, rfl⟩
  obtain ⟨L, eL⟩ : ∃ L : Life, L = ⟨us.map fun (w : Nat) => mkRat (((q - p) * w : Nat) : Int) T, mkRat (p : Nat) q⟩ := ⟨_, rfl⟩
  have ts := tot_drawn (us := us) (a := p) (b := q) (x := 0) (W := T) pq (by rw [eT, Nat.add_zero]) T0
  rw [← eL] at ts
  have ts : (1 - tot L) * (T : Rat) = 0 := by
    rw [ts]
    show ((q - p : Nat) : Rat) * 0 = 0
    rw [Rat.mul_zero]
  have t1 := is_one_of T0 ts
  have ok : LOk T q L := by
    rw [eL]
    refine ⟨T0, by omega, fun y hy => ?_, wh_mk (by omega), (frac01 (by omega) (by omega)).1, frac_lt (by omega) pq, fun z => absurd (List.map_eq_nil_iff.mp z) une, by rw [← eL, t1]; exact Rat.le_refl⟩
    obtain ⟨w, hw, rfl⟩ := List.mem_map.mp hy
    have le : (q - p) * w ≤ T := by
      have : (q - p) * w ≤ (q - p) * us.sum := Nat.mul_le_mul (Nat.le_refl _) (mem_le_sum hw)
      omega
    exact ⟨wh_mk T0, (frac01 T0 le).1, (frac01 T0 le).2⟩
  have lc : lcN (.one 8) cYes (cCall F_q_lowest [cBin oMul (cVar 8) (cVar 5), cVar 6]) [.feed, .dat (.int (b : Nat)), .dat (.int (a : Nat)), .dat (enc x), .dat (.list (us.map fun (n : Nat) => .int n)), .dat (.int ((q - p : Nat) : Int)), .dat (.int (T : Nat)), .emp, .emp] (us.map fun (n : Nat) => .int n) [] f = .ok (L.row.map enc) f := by
    have e : L.row.map enc = us.map fun w => enc (mkRat (((q - p) * w : Nat) : Int) T) := by rw [eL, List.map_map]; rfl
    rw [e]
    refine lc_map (by omega) fun w hw => ⟨_, rfl, ?_⟩
    have w3 := uw w hw
    have m1 : oMul (.int (w : Nat)) (.int ((q - p : Nat) : Int)) = some (.dat (.int ((w * (q - p) : Nat) : Int))) := oMul_nat (Nat.lt_of_le_of_lt w3 (by decide)) (Nat.lt_of_le_of_lt (show q - p ≤ 5 by omega) (by decide))
    have lb := lowest_big (f := f) (p := ((w * (q - p) : Nat) : Int)) (q := T) T0 (Nat.lt_of_le_of_lt T100 (by decide))
    rw [Nat.mul_comm w] at m1 lb
    generalize enc x = X at *
    generalize enc (mkRat (((q - p) * w : Nat) : Int) T) = Y at *
    generalize (q - p) * w = A at *
    generalize PyData.list (us.map fun (n : Nat) => PyData.int n) = N at *
    simp [m1, lb]
  have eD : PyData.tuple [.tuple (L.row.map enc), enc x] = lifeD L := by
    unfold lifeD
    rw [show L.step = x from by rw [xs, eL]]
  have Ln : L.row ≠ [] := by rw [eL]; exact fun z => une (List.map_eq_nil_iff.mp z)
  have Ll : L.row.length ≤ 3 := by rw [eL]; show (us.map _).length ≤ 3; rw [List.length_map]; exact ul
  generalize L.row.map enc = R at *
  generalize enc x = X at *
  generalize (us.map fun (n : Nat) => PyData.int n) = N at *
  simp [lc, eD]
  exact ⟨L, rfl, T, q, ok, T100, by omega, Ln, Ll, hF3.up (by omega)⟩
end
end Fp
namespace Fp
open PySem PySem.Spec L2 Dn PyProof.Rows
def cds (d : PyData) : List Nat := d.shown.cps.toList
def nd (n : Nat) : List Nat := (Nat.toDigits 10 n).map Char.toNat
def tl : List PyData → List Nat
  | [] => [41]
  | [x] => cds x ++ [41]
  | x :: y :: r => cds x ++ 44 :: 32 :: tl (y :: r)
theorem tl_join : ∀ (x : PyData) (xs : List PyData), (Str.join ", " (PyData.shownAll (x :: xs))).cps.toList ++ [41] = tl (x :: xs)
  | x, [] => rfl
  | x, y :: r => by
    have := tl_join y r
    show (Str.join ", " (x.shown :: y.shown :: PyData.shownAll r)).cps.toList ++ [41] = _
    replace this : (Str.join ", " (y.shown :: PyData.shownAll r)).cps.toList ++ [41] = tl (y :: r) := this
    rw [join_cons_cons, cps_toList_append, cps_toList_append, signs_sep, List.append_assoc, this, List.append_assoc]
    rfl
mutual
def plain : PyData → Bool
  | .int _ => true
  | .tuple xs => plainAll xs
  | _ => false
def plainAll : List PyData → Bool
  | [] => true
  | x :: xs => plain x && plainAll xs
end
end Fp
namespace Fp
open PySem PySem.Spec L2 Dn
section
variable {W s : Nat} {L : Life} {f : Feed}
theorem bounded70_ok {t : Int} {full : Bool} (hF : Fd t f) (ht : t < 2 ^ 29) (t0 : 0 ≤ t) : Ev (F_q_bounded_v2 [.feed, .dat (.int 6), .dat (.bool full)] f) fun rv g => ∃ (L : Life) (W : Nat), rv = .dat (lifeD L) ∧ LOk W 1 L ∧ W ≤ 100 ∧ L.step = 0 ∧ L.row.length ≤ 6 ∧ Fd (t + 20) g := by
  refine Ev.mono (bounded_v2_ok hF (by omega) t0) ?_
  rintro _ g ⟨ws, T, rfl, hl, hs, T0, T1, hG⟩
  refine ⟨lifeC ws T, T, by rw [bnd_lifeC T0], lifeC_ok T0 hs, T1, rfl, ?_, hG⟩
  show (ws.map _).length ≤ 6
  rw [List.length_map]
  exact hl
theorem less4 {a : Nat} (h : a < 4) : ∃ c : Rat, Wh 6 c ∧ 0 ≤ c ∧ c ≤ 1 ∧ Sz 3 c ∧ ([PyData.tuple [.int 1, .int 2], .tuple [.int 2, .int 3], .tuple [.int 1, .int 1], .tuple [.int 0, .int 1]] : List PyData)[a]? = some (enc c) := by
  obtain rfl | rfl | rfl | rfl : a = 0 ∨ a = 1 ∨ a = 2 ∨ a = 3 := by omega
  · exact ⟨mkRat ((1 : Nat) : Int) 2, ⟨3, by decide +kernel⟩, by decide +kernel, by decide +kernel, ⟨by decide +kernel, by decide +kernel⟩, by rw [enc_low (by decide) (by decide)]; rfl⟩
  · exact ⟨mkRat ((2 : Nat) : Int) 3, ⟨4, by decide +kernel⟩, by decide +kernel, by decide +kernel, ⟨by decide +kernel, by decide +kernel⟩, by rw [enc_low (by decide) (by decide)]; rfl⟩
  · exact ⟨1, ⟨6, by decide +kernel⟩, by decide +kernel, by decide +kernel, ⟨by decide +kernel, by decide +kernel⟩, rfl⟩
  · exact ⟨0, ⟨0, by decide +kernel⟩, by decide +kernel, by decide +kernel, ⟨by decide +kernel, by decide +kernel⟩, rfl⟩
theorem life70_ok {t : Int} (hF : Fd t f) (ht : t < 2 ^ 28) (t0 : 0 ≤ t) : Ev (F_q_life_v2 [.feed] f) fun rv g => ∃ (L : Life) (W s : Nat), rv = .dat (lifeD L) ∧ LOk W s L ∧ W ≤ 600 ∧ s ≤ 9 ∧ L.row.length ≤ 6 ∧ Fd (t + 30) g := by
  rw [u_q_life_v2, ev_dEnd]
  unfold S_q_life_v2
  refine ev_stq (fun ρ g => ∃ w : Nat, w < 4 ∧ ρ = [.feed, .dat (.int (w : Nat)), .emp, .emp, .emp, .emp] ∧ Fd (t + 1) g) ?_ ?_
  · intro Q' hQ
    simp
    refine Ev.drawnE (draw_v3_ok (s := 4) (by decide) (by decide) hF (by omega)) fun a g a0 a4 hG => ?_
    obtain ⟨a, rfl⟩ := Int.eq_ofNat_of_zero_le a0
    simp
    exact hQ _ _ ⟨a, by omega, rfl, hG⟩
  rintro _ f ⟨w, w4, rfl, hF1⟩
  by_cases c : w < 2
  · have ci : (w : Int) < 2 := by omega
    obtain ⟨_, g, e, L, W, rfl, ok, W1, z, l6, hG⟩ := bounded70_ok (full := decide ((w : Int) = 0)) hF1 (by omega) (by omega)
    have Z : ∃ (L' : Life) (W s : Nat), RV.dat (lifeD L) = .dat (lifeD L') ∧ LOk W s L' ∧ W ≤ 600 ∧ s ≤ 9 ∧ L'.row.length ≤ 6 ∧ Fd (t + 30) g := ⟨L, W, 1, rfl, ok, by omega, by decide, l6, hG.up (by omega)⟩
    generalize lifeD L = D at *
    rw [e_seq, ev_bind]
    simp [ci]
    simp only [Int.natCast_eq_zero] at e
    rw [e]
    simpa using Z
  · have ci : ¬ (w : Int) < 2 := by omega
    refine ev_step (fun ρ g => g = f ∧ ρ = [.feed, .dat (.int (w : Nat)), .emp, .emp, .emp, .emp]) (by simp [ci]) ?_
    rintro _ f ⟨rfl, rfl⟩
    refine ev_stq (fun ρ g => ∃ (L : Life) (W s : Nat), LOk W s L ∧ W ≤ 100 ∧ s ≤ 9 ∧ L.row ≠ [] ∧ L.row.length ≤ 3 ∧ ρ = [.feed, .dat (.int (w : Nat)), .dat (.tuple (L.row.map enc)), .dat (enc L.step), .emp, .emp] ∧ Fd (t + 11) g) ?_ ?_
    · intro Q' hQ
      obtain ⟨_, g, e, L, W, s, rfl, ok, W1, s1, rn, l3, hG⟩ := stepped_ok hF1 (by omega) (by omega)
      have hQ := hQ _ _ ⟨L, W, s, ok, W1, s1, rn, l3, rfl, hG.up (by omega)⟩
      unfold lifeD at e
      generalize enc L.step = S at *
      generalize L.row.map enc = R at *
      simp [e]
      exact hQ
    rintro _ f ⟨L, W, s, ok, W1, s1, rn, l3, rfl, hF2⟩
    by_cases c2 : w = 2
    · have ci : (w : Int) = 2 := by omega
      have Z : ∃ (L' : Life) (W s : Nat), RV.dat (lifeD L) = .dat (lifeD L') ∧ LOk W s L' ∧ W ≤ 600 ∧ s ≤ 9 ∧ L'.row.length ≤ 6 ∧ Fd (t + 30) f := ⟨L, W, s, rfl, ok, by omega, s1, by omega, hF2.up (by omega)⟩
      have eD : PyData.tuple [.tuple (L.row.map enc), enc L.step] = lifeD L := rfl
      generalize L.row.map enc = R at *
      generalize enc L.step = S at *
      rw [e_seq, ev_bind]
      simp [c2, eD]
      simpa using Z
    · have ci : ¬ (w : Int) = 2 := by omega
      refine ev_step (fun ρ g => g = f ∧ ρ = [.feed, .dat (.int (w : Nat)), .dat (.tuple (L.row.map enc)), .dat (enc L.step), .emp, .emp]) (by
        generalize L.row.map enc = R at *
        generalize enc L.step = S at *
        simp [ci]) ?_
      rintro _ f ⟨rfl, rfl⟩
      refine ev_stq (fun ρ g => ∃ c : Rat, Wh 6 c ∧ 0 ≤ c ∧ c ≤ 1 ∧ Sz 3 c ∧ ρ = [.feed, .dat (.int (w : Nat)), .dat (.tuple (L.row.map enc)), .dat (enc L.step), .dat (enc c), .emp] ∧ Fd (t + 12) g) ?_ ?_
      · intro Q' hQ
        generalize L.row.map enc = R at *
        generalize enc L.step = S at *
        simp
        refine Ev.drawn (draw_v3_ok (s := 4) (by decide) (by decide) hF2 (by omega)) fun a g a0 a4 hG => ?_
        obtain ⟨a, rfl⟩ := Int.eq_ofNat_of_zero_le a0
        obtain ⟨c, h1, h2, h3, h4, e⟩ := less4 (a := a) (by omega)
        simp [e]
        exact hQ _ _ ⟨c, h1, h2, h3, h4, rfl, hG.up (by omega)⟩
      rintro _ f ⟨c, h1, h2, h3, h4, rfl, hF3⟩
      have ok2 := lessL_ok ok rn (by decide) h1 h2 h3
      have lc : lcN (.one 5) cYes (cCall F_q_by [cVar 5, cVar 4]) [.feed, .dat (.int (w : Nat)), .dat (.tuple (L.row.map enc)), .dat (enc L.step), .dat (enc c), .emp] (L.row.map enc) [] f = .ok ((lessL L c).row.map enc) f := by
        have e : (lessL L c).row.map enc = L.row.map fun x => enc (x * c) := by
          unfold lessL
          rw [List.map_map]
          rfl
        rw [e]
        refine lc_map (by omega) fun x hx => ⟨_, rfl, ?_⟩
        obtain ⟨w1, x0, x1⟩ := ok.row x hx
        have sx : Sz 10 x := sz01 ok.W0 w1 x0 x1 (by omega)
        have q := q_by_t (f := f) (sx.up (show 10 ≤ 4000 by decide)) (h4.up (show 3 ≤ 4000 by decide)) (Nat.le_refl _)
        generalize L.row.map enc = R at *
        generalize enc L.step = S at *
        generalize enc (x * c) = y at *
        generalize enc x = X at *
        generalize enc c = C at *
        simp [q]
      have eD : PyData.tuple [.tuple ((lessL L c).row.map enc), enc L.step] = lifeD (lessL L c) := rfl
      have Z : ∃ (L' : Life) (W s : Nat), RV.dat (lifeD (lessL L c)) = .dat (lifeD L') ∧ LOk W s L' ∧ W ≤ 600 ∧ s ≤ 9 ∧ L'.row.length ≤ 6 ∧ Fd (t + 30) f := ⟨_, W * 6, s, rfl, ok2, by omega, s1, by show (L.row.map _).length ≤ 6; rw [List.length_map]; omega, hF3.up (by omega)⟩
      generalize (lessL L c).row.map enc = R2 at *
      generalize lifeD (lessL L c) = D2 at *
      generalize L.row.map enc = R at *
      generalize enc L.step = S at *
      generalize enc c = C at *
      simp [lc, eD]
      simpa using Z
end
end Fp
namespace Fp
open PySem PySem.Spec L2 Dn
theorem mem_joinL {S : List Nat} {c : Nat} : ∀ {ps : List (List Nat)}, c ∈ TL.joinL S ps → c ∈ S ∨ ∃ p ∈ ps, c ∈ p
  | [], h => by cases h
  | [p], h => .inr ⟨p, by simp, h⟩
  | p :: q :: r, h => by
    have h : c ∈ p ++ (S ++ TL.joinL S (q :: r)) := h
    rcases List.mem_append.mp h with h | h
    · exact .inr ⟨p, by simp, h⟩
    · rcases List.mem_append.mp h with h | h
      · exact .inl h
      · rcases mem_joinL h with h | ⟨x, hx, h⟩
        · exact .inl h
        · exact .inr ⟨x, List.mem_cons_of_mem _ hx, h⟩
theorem sokk_joinS {y : Str} {ps : List Str} (hy : sokk y) (hp : ∀ p ∈ ps, sokk p) : sokk (Txt.join y ps) := fun c hc => by
  have e := TL.tl_join y ps
  rw [TL.join_eq] at hc
  have hc : c ∈ TL.tl (Str.join y ps) := hc
  rw [e] at hc
  rcases mem_joinL hc with h | ⟨p, hp2, h⟩
  · exact hy c h
  · obtain ⟨w, hw, rfl⟩ := List.mem_map.mp hp2
    exact hp w hw c h
theorem sokk_word {L : Life} : ∀ w ∈ wordsL L, sokk w := fun w hw => by
  unfold wordsL rowT stepT at hw
  rcases List.mem_append.mp hw with hw | hw
  · split at hw
    · rw [List.mem_singleton.mp hw]
      exact sokk_of _
    · obtain ⟨x, _, rfl⟩ := List.mem_map.mp hw
      exact sokk_rtx x
  · split at hw
    · cases hw
    · rcases List.mem_cons.mp hw with rfl | hw
      · exact sokk_of _
      · rw [List.mem_singleton.mp hw]
        exact sokk_rtx _
theorem noStr_enc (x : Rat) : noStr (enc x) = true := by simp [enc, noStr, noStrs]
theorem noStr_life (L : Life) : noStr (lifeD L) = true := by
  have : noStrs (L.row.map enc) = true := noStrs_of fun d hd => by
    obtain ⟨x, _, rfl⟩ := List.mem_map.mp hd
    exact noStr_enc x
  unfold lifeD
  simp [noStr, noStrs, this, noStr_enc]
end Fp
namespace Fp
open PySem PySem.Spec L2 Dn
theorem sub_sum : ∀ {l m : List Nat}, l.Sublist m → l.sum ≤ m.sum
  | _, _, .slnil => Nat.le_refl _
  | _, _, .cons a h => by
    have := sub_sum h
    rw [List.sum_cons]
    omega
  | _, _, .cons_cons a h => by
    have := sub_sum h
    rw [List.sum_cons, List.sum_cons]
    omega
section
variable {ws us : List Nat} {T U fo n : Nat} {f : Feed} {ks ls : List (List Tri)}
/-- kinds that are read back -/
structure GK (ks : List (List Tri)) : Prop where
  n1 : 1 ≤ ks.length
  n4 : ks.length ≤ 4
  k : ∀ k ∈ ks, GoodK ks.length k
theorem KsOk.gk {W : Nat} (h : KsOk W ks) : GK ks := ⟨h.n1, h.n4, fun k hk => by
  obtain ⟨V, hV, ok⟩ := h.own k hk
  exact ⟨⟨V, by omega, ok⟩, h.n4⟩⟩
theorem sokk_kindT (k : List Tri) : sokk (kindT k) := by
  unfold kindT
  split
  · exact sokk_of _
  · exact sokk_joinS (sokk_of _) fun p hp => by
      obtain ⟨t, _, rfl⟩ := List.mem_map.mp hp
      exact sokk_triT
theorem nT_3 {n : Nat} (h : n < 1000) : (nT n).length ≤ 3 := by
  rw [cd_len, cd_nT]
  exact TL.numL_len (by decide) (by omega)
theorem rtx_7 {x : Rat} (h0 : 0 ≤ x) (h1 : x ≤ 1) (hd : x.den < 1000) : (rtx x).length ≤ 7 := by
  have n0 := Rat.num_nonneg.mpr h0
  have nd := num_le_den h1
  have a := nT_3 (n := x.num.toNat) (by omega)
  have b := nT_3 hd
  have c : slash.length = 1 := by unfold slash; decide +kernel
  unfold rtx
  split
  · omega
  · rw [len_app, len_app]
    omega
theorem triT_15 {t : Tri} (h : TrOk t) : (triT t).length ≤ 15 := by
  have a := nT_3 h.st
  have b := nT_3 h.nx
  have c := rtx_7 h.c0 h.c1 h.d
  unfold triT
  rw [len_app, len_app, len_app, len_app, len_gt, len_colon]
  omega
theorem kindT_400 {k : List Tri} (h : GoodK n k) : (kindT k).length ≤ 400 := by
  obtain ⟨V, _, ok⟩ := h.ok
  have hl := ok.len
  unfold kindT
  split
  · have : dash.length = 1 := by unfold dash; decide +kernel
    omega
  · have a := lens_le (l := k.map triT) (m := 15) fun w hw => by
      obtain ⟨t, ht, rfl⟩ := List.mem_map.mp hw
      exact triT_15 (h.tr t ht)
    have c := joinL_len (S := cd sp) ((k.map triT).map TL.tl)
    have e := TL.tl_join sp (k.map triT)
    rw [cd_len, TL.join_eq]
    have e : cd (Str.join sp (k.map triT)) = TL.joinL (cd sp) ((k.map triT).map TL.tl) := e
    rw [e]
    rw [cd_sp] at c ⊢
    rw [List.map_map (f := TL.tl), List.length_map] at c
    have s : ((k.map triT).map (List.length ∘ TL.tl)).sum = ((k.map triT).map fun (t : Str) => t.length).sum := congrArg List.sum (List.map_congr_left fun w _ => (cd_len w).symm)
    rw [s] at c
    have l2 : (k.map triT).length = k.length := List.length_map _
    simp only [List.length_singleton, Nat.mul_one] at c
    omega
end
end Fp
namespace Fp
open PySem PySem.Spec L2 Dn
theorem chW_ok {w : Str} {q : Rat} (h : chW w = some q) : 0 ≤ q ∧ q ≤ 1 ∧ q.den < 1000 := by
  unfold chW at h
  have lt : ∀ n, some n ∈ (Txt.split w slash).map numW → n < 1000 := fun n hn => by
    obtain ⟨p, _, hp⟩ := List.mem_map.mp hn
    exact numW_lt hp
  generalize (Txt.split w slash).map numW = M at *
  match M, h, lt with
  | [some n], h, _ =>
    by_cases c : n < 2
    · have h : (if n < 2 then some (n : Rat) else none) = some q := h
      rw [if_pos c] at h
      cases h
      have : n = 0 ∨ n = 1 := by omega
      rcases this with rfl | rfl
      · exact ⟨by decide, by decide, by decide⟩
      · exact ⟨by decide, by decide, by decide⟩
    · have h : (if n < 2 then some (n : Rat) else none) = some q := h
      rw [if_neg c] at h
      cases h
  | [some a, some b], h, lt =>
    have h : (if 0 < a ∧ a < b ∧ Nat.gcd a b = 1 then some (mkRat a b) else none) = some q := h
    by_cases c : 0 < a ∧ a < b ∧ Nat.gcd a b = 1
    · rw [if_pos c] at h
      cases h
      obtain ⟨a0, ab, g⟩ := c
      have hb := lt b (by simp)
      have e := enc_low (a := a) (b := b) (by omega) g
      have ed : (mkRat (a : Int) b).den = b := by
        unfold enc at e
        injection e with e
        injection e with _ e
        injection e with e _
        injection e with e
        exact Int.ofNat.inj e
      have f := frac01 (show 0 < b by omega) (show a ≤ b by omega)
      exact ⟨f.1, f.2, by rw [ed]; exact hb⟩
    · rw [if_neg c] at h
      cases h
theorem ne_pair {a b c d : Int} : oNe (.tuple [.int a, .int b]) (.tuple [.int c, .int d]) = some (.dat (.bool (!decide (a = c ∧ b = d)))) := by
  rw [oNe_of (by rfl) (by rfl)]
  by_cases h : a = c <;> by_cases h2 : b = d <;> simp [PyData.eqv, PyData.eqvAll, h, h2]
section
variable {w : Str} {f : Feed} {n : Nat}
theorem q_figures_q (hl : w.length ≤ 100000) : F_q_figures [.dat (.str w)] f = .ok (.dat (optN (numW w))) f := by
  have hc := cd_len w
  have sgT : ∀ c : Nat, oInSg true (.str ⟨#[c]⟩) (.str (Str.ofString "0123456789")) = some (.dat (.bool (!isDig c))) := fun c => by
    show some (RV.dat (.bool (true ^^ decide (c ∈ cd (Str.ofString "0123456789"))))) = _
    rw [fig_in, Bool.true_xor]
  have lc : lcN (.one 1) (cT (cBin (oInSg true) (cVar 1) (cC (.str (Str.ofString "0123456789"))))) (cVar 1) [.dat (.str w), .emp] (signsD w) [] f = .ok (((cd w).filter fun c => !isDig c).map fun c => .str ⟨#[c]⟩) f := by
    refine lc_pure (xs := cd w) (enc := fun c => .str ⟨#[c]⟩) (p := fun c => !isDig c) (by omega) fun c hc => ⟨_, rfl, ?_, fun _ => ?_⟩
    · simp [sgT]
    · simp
  have ix : oIx (.str w) (.int 0) = if w.length ≤ 100000 then (atI (cd w) 0).map fun c => .dat (.str ⟨#[c]⟩) else none := rfl
  rw [if_pos hl] at ix
  apply ev_is
  rw [u_q_figures, ev_dEnd]
  unfold S_q_figures
  by_cases h1 : 1 ≤ (cd w).length ∧ (cd w).length ≤ 3
  · have i1 : (1 : Int) ≤ (w.length : Int) := by omega
    have i2 : (w.length : Int) ≤ 3 := by omega
    cases h2 : (cd w).all isDig with
    | false =>
      have e : numW w = none := by
        unfold numW okW
        rw [h2]
        simp
      have ne : (((cd w).filter fun c => !isDig c).map fun c => PyData.str ⟨#[c]⟩).isEmpty = false := by
        rw [List.all_eq_false] at h2
        obtain ⟨c, hm, hd⟩ := h2
        rw [List.isEmpty_eq_false_iff, Ne, List.map_eq_nil_iff, List.filter_eq_nil_iff]
        intro z
        exact z c hm (by simpa using hd)
      generalize (((cd w).filter fun c => !isDig c).map fun c => PyData.str ⟨#[c]⟩) = B at *
      have ne2 : B ≠ [] := by
        intro z
        rw [z] at ne
        cases ne
      simp [hl, i1, i2, lc, ne, ne2, e, optN]
    | true =>
      have ne : (((cd w).filter fun c => !isDig c).map fun c => PyData.str ⟨#[c]⟩) = [] := by
        rw [List.map_eq_nil_iff, List.filter_eq_nil_iff]
        intro c hm
        have := List.all_eq_true.mp h2 c hm
        simpa using this
      rw [ne] at lc
      obtain ⟨c, r, hw⟩ : ∃ c r, cd w = c :: r := by
        cases q : cd w with
        | nil => rw [q] at h1; simp at h1
        | cons c r => exact ⟨c, r, rfl⟩
      have a0 : atI (cd w) 0 = some c := by
        rw [hw]
        simp
      rw [a0] at ix
      have ix : oIx (.str w) (.int 0) = some (.dat (.str ⟨#[c]⟩)) := ix
      have z1 := sign0 c
      have z2 := word0 w
      have it : oIntS (.str w) = some (.dat (.int (NumText.digitsVal (cd w) : Nat))) := by
        show (if w.length ≤ 640 then (PySem.intText? w).map fun n => RV.dat (.int n) else none) = _
        rw [if_pos (by omega), PySem.intText_digits (digs_all h2) (by show cd w ≠ []; rw [hw]; simp) (by omega)]
        rfl
      by_cases h3 : c = 48 ∧ cd w ≠ [48]
      · have e : numW w = none := by
          unfold numW okW
          rw [hw] at h3 ⊢
          simp [h3.1, h3.2]
          intro _ _ _ q
          exact h3.2 (by rw [q, h3.1])
        rw [decide_eq_true h3.1] at z1
        rw [decide_eq_false h3.2] at z2
        rw [decide_eq_true_eq] at z1
        rw [decide_eq_false_iff_not] at z2
        simp [hl, i1, i2, lc, ix, z1, z2, e, optN]
      · have e : numW w = some (NumText.digitsVal (cd w)) := by
          unfold numW
          rw [if_pos]
          unfold okW
          rw [h2, decide_eq_true h1.1, decide_eq_true h1.2]
          simp only [Bool.and_self, Bool.true_and, Bool.not_eq_true', Bool.and_eq_false_iff, decide_eq_false_iff_not]
          by_cases q : c = 48
          · right
            intro z
            exact h3 ⟨q, z⟩
          · left
            rw [hw]
            simpa using q
        rw [e]
        by_cases q : c = 48
        · have z : cd w = [48] := Classical.byContradiction fun z => h3 ⟨q, z⟩
          rw [decide_eq_true q] at z1
          rw [decide_eq_true z] at z2
          rw [decide_eq_true_eq] at z1 z2
          generalize NumText.digitsVal (cd w) = n at *
          subst z2
          simp [hl, i1, i2, lc, ix, z1, it, optN]
        · rw [decide_eq_false q] at z1
          rw [decide_eq_false_iff_not] at z1
          generalize NumText.digitsVal (cd w) = n at *
          simp [hl, i1, i2, lc, ix, z1, it, optN]
  · have e : numW w = none := by
      unfold numW okW
      rw [if_neg]
      intro q
      simp only [Bool.and_eq_true, decide_eq_true_eq] at q
      exact h1 q.1.1
    rw [e]
    by_cases i1 : (1 : Int) ≤ (w.length : Int)
    · have i2 : ¬ (w.length : Int) ≤ 3 := by omega
      simp [hl, i1, i2, optN]
    · simp [hl, i1, optN]
theorem q_chance_v2_q (hl : w.length ≤ 90000) : F_q_chance_v2 [.dat (.str w)] f = .ok (.dat (optQ (chW w))) f := by
  obtain ⟨n1, n2⟩ := split_n w
  have lc : ∀ s1 : Slot, lcN (.one 2) cYes (cCall F_q_figures [cVar 2]) [.dat (.str w), s1, .emp] ((Txt.split w slash).map .str) [] f = .ok (((Txt.split w slash).map numW).map optN) f := fun s1 => by
    rw [List.map_map]
    refine lc_map (by omega) fun p hp => ⟨_, rfl, ?_⟩
    have := q_figures_q (w := p) (f := f) (by have := split_mem hp; omega)
    simp [this]
  have sp : oSplit (.str w) (.str (Str.ofString "/")) = some (.own ((Txt.split w slash).map .str)) := by
    rw [oSplit_str, if_pos ⟨by decide +kernel, by omega⟩]
    rfl
  obtain ⟨M, eM⟩ : ∃ M, M = (Txt.split w slash).map numW := ⟨_, rfl⟩
  have lM : M.length = (Txt.split w slash).length := by rw [eM, List.length_map]
  have lt : ∀ n, some n ∈ M → n < 1000 := fun n hn => by
    rw [eM] at hn
    obtain ⟨p, _, hp⟩ := List.mem_map.mp hn
    exact numW_lt hp
  have inn : oInF false .none (.list (M.map optN)) = some (.dat (.bool (M.any fun o => o.isNone))) := by
    unfold oInF
    simp only [seqOf]
    rw [flat_opt]
    simp only [flatD, Bool.and_self, if_true]
    rw [if_neg (by decide), any_none]
  have eC : chW w = chN M := by rw [eM]; rfl
  rw [← eM] at lc
  rw [eC]
  clear eM eC
  apply ev_is
  rw [u_q_chance_v2, ev_dEnd]
  unfold S_q_chance_v2
  generalize (Txt.split w slash).map PyData.str = SP at *
  cases hn : M.any fun o => o.isNone with
  | true =>
    have e : chN M = none := by
      match M, hn with
      | [none], _ => rfl
      | [some a], h => simp at h
      | [some a, some b], h => simp at h
      | [none, some b], h => rfl
      | [some a, none], h => rfl
      | [none, none], h => rfl
      | x :: y :: _ :: _, h => cases x <;> cases y <;> rfl
    rw [hn] at inn
    rw [e]
    generalize M.map optN = L at *
    simp [-oSplit_str, sp, lc, inn, optQ]
  | false =>
    rw [hn] at inn
    match M, lM, hn, lt, inn, lc with
    | [some n], _, _, _, inn, lc =>
      by_cases c : n < 2
      · have ci : (n : Int) < 2 := by omega
        have e := enc_nat n
        simp only [List.map_cons, List.map_nil, optN] at lc inn
        simp [-oSplit_str, sp, lc, inn, ci, chN, c, optQ, e]
      · have ci : ¬ (n : Int) < 2 := by omega
        simp only [List.map_cons, List.map_nil, optN] at lc inn
        simp [-oSplit_str, sp, lc, inn, ci, chN, c, optQ]
    | [some a, some b], _, _, lt, inn, lc =>
      have ha := lt a (by simp)
      have hb := lt b (by simp)
      simp only [List.map_cons, List.map_nil, optN] at lc inn
      by_cases c : 0 < a ∧ a < b
      · have c1 : (0 : Int) < (a : Int) := by omega
        have c2 : (a : Int) < (b : Int) := by omega
        have lo := lowest_big (f := f) (p := (a : Nat)) (q := b) (by omega) (Nat.lt_trans hb (Nat.lt_trans (by decide : 1000 < 2 ^ 10) (Nat.pow_lt_pow_right (by decide) (by decide))))
        by_cases g : Nat.gcd a b = 1
        · have e := enc_low (a := a) (b := b) (by omega) g
          have ne := ne_pair (a := a) (b := b) (c := a) (d := b)
          rw [decide_eq_true ⟨rfl, rfl⟩] at ne
          rw [e] at lo
          simp [-oSplit_str, sp, lc, inn, c1, c2, lo, ne, chN, c, g, optQ, e]
        · have ne := ne_pair (a := (mkRat a b).num) (b := ((mkRat a b).den : Nat)) (c := a) (d := b)
          have nn : ¬ ((mkRat a b).num = (a : Int) ∧ ((mkRat (a : Int) b).den : Int) = (b : Int)) := by
            rintro ⟨z1, z2⟩
            have cp := (mkRat (a : Int) b).reduced
            rw [z1, Int.ofNat.inj z2] at cp
            exact g cp
          rw [decide_eq_false nn] at ne
          have ne : oNe (enc (mkRat a b)) (.tuple [.int a, .int b]) = some (.dat (.bool true)) := ne
          generalize enc (mkRat (a : Int) b) = E at *
          simp [-oSplit_str, sp, lc, inn, c1, c2, lo, ne, chN, c, g, optQ]
      · by_cases c1 : 0 < a
        · have i1 : (0 : Int) < (a : Int) := by omega
          have i2 : ¬ (a : Int) < (b : Int) := by omega
          have n2 : ¬ a < b := by omega
          simp [-oSplit_str, sp, lc, inn, i1, i2, c1, chN, n2, optQ]
        · have i1 : ¬ (0 : Int) < (a : Int) := by omega
          simp [-oSplit_str, sp, lc, inn, i1, chN, c1, optQ]
    | x :: y :: z :: r, _, _, _, inn, lc =>
      have gt : (2 : Int) < ((x :: y :: z :: r).map optN).length := by
        simp
        omega
      have e : chN (x :: y :: z :: r) = none := by cases x <;> cases y <;> rfl
      rw [e]
      generalize (x :: y :: z :: r).map optN = L at *
      simp [-oSplit_str, sp, lc, inn, gt, optQ]
    | [], l0, _, _, _, _ => simp at l0; omega
end
end Fp
namespace Fp
open PySem PySem.Spec L2 Dn
/-- a value with P, or an error with Q -/
def Evx {α : Type} (r : R α) (P : α → Feed → Prop) (Q : Str → List (Str × PyData) → Feed → Prop) : Prop := (∃ a f, r = .ok a f ∧ P a f) ∨ ∃ c vs f, r = .ex c vs f ∧ Q c vs f
section
variable {α β : Type} {r : R α} {f : Feed} {P : α → Feed → Prop} {Q : Str → List (Str × PyData) → Feed → Prop}
@[simp] theorem evx_ok {a : α} : Evx (.ok a f) P Q ↔ P a f := by
  constructor
  · rintro (⟨_, _, e, p⟩ | ⟨_, _, _, e, _⟩)
    · cases e
      exact p
    · cases e
  · intro p
    exact .inl ⟨_, _, rfl, p⟩
@[simp] theorem evx_ex {c : Str} {vs : List (Str × PyData)} : Evx (.ex c vs f) P Q ↔ Q c vs f := by
  constructor
  · rintro (⟨_, _, e, p⟩ | ⟨_, _, _, e, p⟩)
    · cases e
    · cases e
      exact p
  · intro p
    exact .inr ⟨_, _, _, rfl, p⟩
theorem evx_no : ¬ Evx (.no : R α) P Q := by
  rintro (⟨_, _, e, p⟩ | ⟨_, _, _, e, p⟩) <;> cases e
theorem evx_bind {k : α → Feed → R β} {P : β → Feed → Prop} : Evx (r.bind k) P Q ↔ Evx r (fun a f => Evx (k a f) P Q) Q := by
  cases r with
  | no => exact ⟨fun h => absurd h evx_no, fun h => absurd h evx_no⟩
  | ok a f => rw [evx_ok]; exact Iff.rfl
  | ex c vs f =>
    rw [evx_ex, bind_ex, evx_ex]
theorem Evx.mono {P2 : α → Feed → Prop} {Q2 : Str → List (Str × PyData) → Feed → Prop} (h : Evx r P Q) (hp : ∀ a f, P a f → P2 a f) (hq : ∀ c vs f, Q c vs f → Q2 c vs f) : Evx r P2 Q2 := by
  rcases h with ⟨_, _, e, p⟩ | ⟨_, _, _, e, p⟩
  · exact .inl ⟨_, _, e, hp _ _ p⟩
  · exact .inr ⟨_, _, _, e, hq _ _ _ p⟩
/-- a statement, then the rest -/
theorem evx_step {a b : Sm} {ρ : Rho} {P : Ctl → Feed → Prop} (I : Rho → Feed → Prop) (h : Evx (a ρ f) (fun c g => ∃ ρ2, c = .nx ρ2 ∧ I ρ2 g) Q) (k : ∀ ρ2 g, I ρ2 g → Evx (b ρ2 g) P Q) : Evx (sSeq a b ρ f) P Q := by
  rw [e_seq]
  rw [evx_bind]
  refine h.mono (fun c g hc => ?_) fun _ _ _ q => q
  obtain ⟨ρ2, rfl, i⟩ := hc
  simp
  exact k ρ2 g i
def RetX (P : RV → Feed → Prop) : Ctl → Feed → Prop
  | .nx _, f => P (.dat .none) f
  | .rt v, f => P v.up f
  | _, _ => False
@[simp] theorem retX_rt {P : RV → Feed → Prop} {v : RV} : RetX P (.rt v) f ↔ P v.up f := Iff.rfl
@[simp] theorem retX_nx {P : RV → Feed → Prop} {ρ : Rho} : RetX P (.nx ρ) f ↔ P (.dat .none) f := Iff.rfl
theorem evx_dEndX {r : R Ctl} {P : RV → Feed → Prop} (h : Evx r (RetX P) Q) : Evx (dEndX r) P Q := by
  rcases h with ⟨a, f, rfl, p⟩ | ⟨_, _, _, rfl, p⟩
  · cases a with
    | nx ρ => exact .inl ⟨_, _, rfl, p⟩
    | rt v => exact .inl ⟨_, _, rfl, p⟩
    | bk ρ => exact p.elim
    | ct ρ => exact p.elim
  · exact .inr ⟨_, _, _, rfl, p⟩
end
end Fp
namespace Fp
open PySem PySem.Spec L2 Dn
/-- whether a triple does not come behind the last one of some -/
def notUp (t : Tri) (ts : List Tri) : Bool := match ts.getLast? with
  | none => false
  | some u => decide (t.st < u.st ∨ (t.st = u.st ∧ t.nx ≤ u.nx))
/-- triples as they are found -/
structure FOk (n : Nat) (ts : List Tri) : Prop where
  st : ∀ t ∈ ts, 1 ≤ t.st ∧ t.st ≤ 6 ∧ t.nx < n
  c : ∀ t ∈ ts, 0 < t.c ∧ t.c ≤ 1
  d : ∀ t ∈ ts, t.c.den < 1000
  up : (ts.map fun t => 4 * t.st + t.nx).Pairwise (· < ·)
theorem FOk.nil {n : Nat} : FOk n [] := ⟨fun _ h => (by cases h), fun _ h => (by cases h), fun _ h => (by cases h), List.Pairwise.nil⟩
theorem inc_len : ∀ {l : List Nat} {a b : Nat}, l.Pairwise (· < ·) → (∀ x ∈ l, a ≤ x ∧ x < b) → l.length ≤ b - a
  | [], a, b, _, _ => Nat.zero_le _
  | h :: r, a, b, p, m => by
    obtain ⟨p1, p2⟩ := List.pairwise_cons.mp p
    have hh := m h List.mem_cons_self
    have := inc_len (a := a + 1) (b := b) p2 fun x hx => by
      have := p1 x hx
      have := m x (List.mem_cons_of_mem _ hx)
      omega
    rw [List.length_cons]
    omega
section
variable {n : Nat} {t u : Tri} {ts : List Tri} {w : Str} {ws ls : List Str} {f : Feed} {row : Nat}
theorem FOk.len (h : FOk n ts) (hn : n ≤ 4) : ts.length ≤ 24 := by
  have := inc_len (a := 4) (b := 28) h.up fun x hx => by
    obtain ⟨t, ht, rfl⟩ := List.mem_map.mp hx
    have := h.st t ht
    omega
  rw [List.length_map] at this
  exact this
theorem FOk.more (h : FOk n ts) (hn : n ≤ 4) (ht : (1 ≤ t.st ∧ t.st ≤ 6 ∧ t.nx < n) ∧ 0 < t.c ∧ t.c ≤ 1 ∧ t.c.den < 1000) (hu : notUp t ts = false) : FOk n (ts ++ [t]) where
  st := fun x hx => by
    rcases List.mem_append.mp hx with hx | hx
    · exact h.st x hx
    · rw [List.mem_singleton.mp hx]
      exact ht.1
  c := fun x hx => by
    rcases List.mem_append.mp hx with hx | hx
    · exact h.c x hx
    · rw [List.mem_singleton.mp hx]
      exact ⟨ht.2.1, ht.2.2.1⟩
  d := fun x hx => by
    rcases List.mem_append.mp hx with hx | hx
    · exact h.d x hx
    · rw [List.mem_singleton.mp hx]
      exact ht.2.2.2
  up := by
    rw [List.map_append]
    refine List.pairwise_append.mpr ⟨h.up, by simp, fun a ha b hb => ?_⟩
    rw [List.map_cons, List.map_nil, List.mem_singleton] at hb
    subst hb
    obtain ⟨x, hx, rfl⟩ := List.mem_map.mp ha
    cases q : ts.getLast? with
    | none =>
      rw [List.getLast?_eq_none_iff.mp q] at hx
      cases hx
    | some u =>
      unfold notUp at hu
      rw [q] at hu
      have hu := of_decide_eq_false hu
      obtain ⟨B, rfl⟩ := List.getLast?_eq_some_iff.mp q
      have hu4 := h.st u (by simp)
      have uu : 4 * u.st + u.nx < 4 * t.st + t.nx := by omega
      rcases List.mem_append.mp hx with hx | hx
      · have p := h.up
        rw [List.map_append] at p
        have := (List.pairwise_append.mp p).2.2 _ (List.mem_map_of_mem hx) (4 * u.st + u.nx) (by simp)
        omega
      · rw [List.mem_singleton.mp hx]
        exact uu
end
end Fp
namespace Fp
open PySem PySem.Spec L2 Dn
/-- lines of a fair size -/
structure LnOk (ls : List Str) : Prop where
  n : ls.length ≤ 1000
  l : ∀ l ∈ ls, l.length ≤ 80000
section
variable {n : Nat} {ts : List Tri} {ks : List (List Tri)} {ls : List Str} {f : Feed} {row : Nat}
theorem split_sp_ne (l : Str) : Txt.split l sp ≠ [] := fun z => by
  have := (split_any l sp 32 (cd_inj (by rw [cd_sp]))).1
  rw [z] at this
  simp at this
theorem split_sp_n (l : Str) : (Txt.split l sp).length ≤ l.length + 2 := (split_any l sp 32 (cd_inj (by rw [cd_sp]))).2
end
end Fp
namespace Fp
open PySem PySem.Spec L2 Dn
section
variable {n : Nat} {ts : List Tri} {ks : List (List Tri)} {ls ws : List Str} {f : Feed} {row : Nat} {A : List PyData} {LS : PyData}
theorem isover_q {x : Rat} : F_q_is_over [.dat (enc x)] f = .ok (.dat (.bool (decide (1 < x)))) f := by
  have i0 : oIx (enc x) (.int 0) = some (.dat (.int x.num)) := rfl
  have i1 : oIx (enc x) (.int 1) = some (.dat (.int (x.den : Nat))) := rfl
  have e : decide ((x.den : Int) < x.num) = decide (1 < x) := by
    rw [decide_eq_decide, ← lt_num 1 x]
    show _ ↔ (1 : Int) * (x.den : Nat) < x.num * ((1 : Nat) : Int)
    omega
  apply ev_is
  rw [u_q_is_over, ev_dEnd]
  unfold S_q_is_over
  rw [← e]
  generalize enc x = X at *
  simp [i0, i1]
end
end Fp
namespace Fp
open PySem PySem.Spec L2 Dn
section
variable {n : Nat} {ts : List Tri} {ks : List (List Tri)} {ls ws : List Str} {f : Feed} {row : Nat} {A : List PyData} {LS : PyData}
end
end Fp
namespace Fp
open PySem PySem.Spec L2 Dn
/-- a text of a fair size -/
structure Tx (M : Nat) (s : Str) : Prop where
  ok : sokk s
  len : s.length ≤ M
theorem Tx.up {M N : Nat} {s : Str} (h : Tx M s) (k : M ≤ N) : Tx N s := ⟨h.ok, Nat.le_trans h.len k⟩
theorem Tx.cut {M : Nat} {s : Str} (h : Tx M s) (lo hi : Option Int) : Tx M (cutS s lo hi) := ⟨fun c hc => by
  have hc : c ∈ ((cd s).drop (HT.sIx s.length 0 lo)).take (HT.sIx s.length s.length hi - HT.sIx s.length 0 lo) := by
    show c ∈ _
    exact hc
  exact h.ok c (List.mem_of_mem_drop (List.mem_of_mem_take hc)), Nat.le_trans (cutS_length s lo hi) h.len⟩
theorem Tx.rev {M : Nat} {s : Str} (h : Tx M s) : Tx M (revS s) := ⟨fun c hc => h.ok c (List.mem_reverse.mp hc), by
  show ((cd s).reverse.toArray).size ≤ M
  rw [List.size_toArray, List.length_reverse]
  exact (cd_len s).symm ▸ h.len⟩
theorem Tx.app {M N : Nat} {s t : Str} (h : Tx M s) (k : Tx N t) : Tx (M + N) (s ++ t) := ⟨sokk_app h.ok k.ok, by
  rw [len_app]
  exact Nat.add_le_add h.len k.len⟩
theorem Tx.add {M N : Nat} {s t : Str} (h : Tx M s) (k : Tx N t) (hb : M + N ≤ 100000) : oAdd (.str s) (.str t) = some (.dat (.str (s ++ t))) := by
  have := h.len
  have := k.len
  rw [oAdd_str, if_pos (by omega)]
def SG1 : Str := Str.ofString " !\"#$&'()*+,-./0123456789:;<=>?@ABCDEFGHIJKLMNOPQRSTUVWXYZ[\\]^_`"
def SG : Str := SG1 ++ Str.ofString "abcdefghijklmnopqrstuvwxyz{|}~" ++ Str.ofString "   " ++ Str.ofString "///" ++ Str.ofString "0123456789" ++ Str.ofString ";;--" ++ Str.ofString ">>::"
theorem sg_tx : Tx 200 SG := ⟨sokk_app (sokk_app (sokk_app (sokk_app (sokk_app (sokk_app (sokk_of _) (sokk_of _)) (sokk_of _)) (sokk_of _)) (sokk_of _)) (sokk_of _)) (sokk_of _), by decide +kernel⟩
theorem sg_pos : 0 < SG.length := by decide +kernel
section
variable {f : Feed} {M : Nat} {s : Str} {t : Int}
theorem q_signs_q : F_q_signs [] f = .ok (.dat (.str SG)) f := by
  apply ev_is
  rw [u_q_signs, ev_dEnd]
  unfold S_q_signs
  have t0 : Tx 100 SG1 := ⟨sokk_of _, by decide +kernel⟩
  have tt : ∀ x : String, (Str.ofString x).length ≤ 100 → Tx 100 (Str.ofString x) := fun x h => ⟨sokk_of x, h⟩
  have t1 := tt "abcdefghijklmnopqrstuvwxyz{|}~" (by decide +kernel)
  have t2 := tt "   " (by decide +kernel)
  have t3 := tt "///" (by decide +kernel)
  have t4 := tt "0123456789" (by decide +kernel)
  have t5 := tt ";;--" (by decide +kernel)
  have t6 := tt ">>::" (by decide +kernel)
  have a1 := t0.add t1 (by decide)
  have a2 := (t0.app t1).add t2 (by decide)
  have a3 := ((t0.app t1).app t2).add t3 (by decide)
  have a4 := (((t0.app t1).app t2).app t3).add t4 (by decide)
  have a5 := ((((t0.app t1).app t2).app t3).app t4).add t5 (by decide)
  have a6 := (((((t0.app t1).app t2).app t3).app t4).app t5).add t6 (by decide)
  rw [show Str.ofString " !\"#$&'()*+,-./0123456789:;<=>?@ABCDEFGHIJKLMNOPQRSTUVWXYZ[\\]^_`" = SG1 from rfl]
  unfold SG
  clear tt t0 t1 t2 t3 t4 t5 t6
  generalize SG1 ++ Str.ofString "abcdefghijklmnopqrstuvwxyz{|}~" ++ Str.ofString "   " ++ Str.ofString "///" ++ Str.ofString "0123456789" ++ Str.ofString ";;--" ++ Str.ofString ">>::" = x6 at *
  generalize SG1 ++ Str.ofString "abcdefghijklmnopqrstuvwxyz{|}~" ++ Str.ofString "   " ++ Str.ofString "///" ++ Str.ofString "0123456789" ++ Str.ofString ";;--" = x5 at *
  generalize SG1 ++ Str.ofString "abcdefghijklmnopqrstuvwxyz{|}~" ++ Str.ofString "   " ++ Str.ofString "///" ++ Str.ofString "0123456789" = x4 at *
  generalize SG1 ++ Str.ofString "abcdefghijklmnopqrstuvwxyz{|}~" ++ Str.ofString "   " ++ Str.ofString "///" = x3 at *
  generalize SG1 ++ Str.ofString "abcdefghijklmnopqrstuvwxyz{|}~" ++ Str.ofString "   " = x2 at *
  generalize SG1 ++ Str.ofString "abcdefghijklmnopqrstuvwxyz{|}~" = x1 at *
  simp [-oAdd_str, a1, a2, a3, a4, a5, a6]
theorem sign_at {i : Int} (h0 : 0 ≤ i) (h1 : i < SG.length) : ∃ z, oIx (.str SG) (.int i) = some (.dat (.str z)) ∧ Tx 1 z := by
  obtain ⟨j, rfl⟩ : ∃ j : Nat, i = j := ⟨i.toNat, by omega⟩
  have hl : j < (cd SG).length := by rw [← cd_len]; omega
  have ix : oIx (.str SG) (.int (j : Nat)) = if SG.length ≤ 100000 then (atI (cd SG) (j : Nat)).map fun c => .dat (.str ⟨#[c]⟩) else none := rfl
  refine ⟨⟨#[(cd SG)[j]]⟩, ?_, fun c hc => ?_, ?_⟩
  · rw [ix, if_pos (Nat.le_trans sg_tx.len (by decide)), Dn.atI_nat, List.getElem?_eq_getElem hl]
    rfl
  · have : c = (cd SG)[j] := by simpa using hc
    rw [this]
    exact sg_tx.ok _ (List.getElem_mem hl)
  · show (#[(cd SG)[j]] : Array Nat).size ≤ 1
    simp
end
end Fp
namespace Fp
open PySem PySem.Spec L2 Dn
structure Lx (N M : Nat) (ls : List Str) : Prop where
  n : ls.length ≤ N
  l : ∀ l ∈ ls, Tx M l
theorem Lx.up {N M N' M' : Nat} {ls : List Str} (h : Lx N M ls) (k : N ≤ N') (k2 : M ≤ M') : Lx N' M' ls := ⟨Nat.le_trans h.n k, fun l hl => (h.l l hl).up k2⟩
theorem Lx.sub {N M : Nat} {ls ms : List Str} (h : Lx N M ls) (k : ms.Sublist ls) : Lx N M ms := ⟨Nat.le_trans k.length_le h.n, fun l hl => h.l l (k.mem hl)⟩
theorem Lx.app {N M N' : Nat} {ls ms : List Str} (h : Lx N M ls) (k : Lx N' M ms) : Lx (N + N') M (ls ++ ms) := ⟨by rw [List.length_append]; exact Nat.add_le_add h.n k.n, fun l hl => (List.mem_append.mp hl).elim (h.l l) (k.l l)⟩
theorem Lx.one {M : Nat} {l : Str} (h : Tx M l) : Lx 1 M [l] := ⟨Nat.le_refl _, fun x hx => by rw [List.mem_singleton.mp hx]; exact h⟩
theorem Lx.rev {N M : Nat} {ls : List Str} (h : Lx N M ls) : Lx N M ls.reverse := ⟨by rw [List.length_reverse]; exact h.n, fun l hl => h.l l (List.mem_reverse.mp hl)⟩
theorem Lx.ln {N M : Nat} {ls : List Str} (h : Lx N M ls) (hN : N ≤ 1000) (hM : M ≤ 80000) : LnOk ls := ⟨Nat.le_trans h.n hN, fun l hl => Nat.le_trans (h.l l hl).len hM⟩
theorem cut_sub (ws : List Str) (lo hi : Option Int) : ∃ ms : List Str, cutD (ws.map .str) lo hi = ms.map .str ∧ ms.Sublist ws := ⟨(ws.drop (HT.sIx (ws.map PyData.str).length 0 lo)).take (HT.sIx (ws.map PyData.str).length (ws.map PyData.str).length hi - HT.sIx (ws.map PyData.str).length 0 lo), by
  unfold cutD
  rw [← List.map_drop, ← List.map_take], (List.take_sublist _ _).trans (List.drop_sublist _ _)⟩
theorem sum_joinL {S : List Nat} : ∀ ps : List (List Nat), (ps.map List.length).sum ≤ (TL.joinL S ps).length
  | [] => by simp [TL.joinL]
  | [p] => by simp [TL.joinL]
  | p :: q :: r => by
    have := sum_joinL (S := S) (q :: r)
    show _ ≤ (p ++ (S ++ TL.joinL S (q :: r))).length
    rw [List.length_append, List.length_append, List.map_cons, List.sum_cons]
    omega
theorem split_sum (l : Str) : ((Txt.split l sp).map fun (w : Str) => w.length).sum ≤ l.length := by
  have e := PySem.StrLaws.join_split l sp
  have e2 := TL.tl_join sp (Txt.split l sp)
  rw [e] at e2
  have := sum_joinL (S := TL.tl sp) ((Txt.split l sp).map TL.tl)
  rw [← e2, List.map_map] at this
  have s : ((Txt.split l sp).map (List.length ∘ TL.tl)).sum = ((Txt.split l sp).map fun (w : Str) => w.length).sum := congrArg List.sum (List.map_congr_left fun w _ => (cd_len w).symm)
  rw [s] at this
  rw [cd_len l]
  exact this
theorem sokk_split {l w : Str} (h : sokk l) (hw : w ∈ Txt.split l sp) : sokk w := fun c hc => by
  have e := PySem.StrLaws.join_split l sp
  have e2 := TL.tl_join sp (Txt.split l sp)
  rw [e] at e2
  have go : ∀ {S : List Nat} {ps : List (List Nat)} {p : List Nat}, p ∈ ps → ∀ c ∈ p, c ∈ TL.joinL S ps := by
    intro S ps
    induction ps with
    | nil => intro p hp; cases hp
    | cons q r ih =>
      intro p hp c hc
      cases r with
      | nil =>
        rw [List.mem_singleton.mp hp] at hc
        exact hc
      | cons x r =>
        show c ∈ q ++ (S ++ TL.joinL S (x :: r))
        rcases List.mem_cons.mp hp with rfl | hp
        · exact List.mem_append_left _ hc
        · exact List.mem_append_right _ (List.mem_append_right _ (ih hp c hc))
  have : c ∈ TL.joinL (TL.tl sp) ((Txt.split l sp).map TL.tl) := go (List.mem_map_of_mem (f := TL.tl) hw) c hc
  rw [← e2] at this
  exact h c this
theorem join_op {ws : List Str} {M : Nat} (h : Tx M (Txt.join sp ws)) (hs : (ws.map fun (w : Str) => w.length).sum + ws.length ≤ 900000) : oJoin (.str (Str.ofString " ")) (.list (ws.map .str)) = some (.dat (.str (Txt.join sp ws))) := by
  have c : sp.length = 1 := by unfold sp; decide +kernel
  exact oJoin_list (x := sp) (by rw [c]; omega)
section
variable {f : Feed} {N M : Nat} {ls : List Str} {t : Int}
end
end Fp
namespace Fp
open PySem PySem.Spec L2 Dn
def k6 : List (List String) := [["1>4:1", "1>4:1", "1>4:1", "1>4:1", "1>4:1"], ["1>1:1"], ["1>1:1", "-"], ["1>0:1/2 1>0:1/3"], ["1>0:1/2 2>0:2/3"], ["1>0:1 - "]]
def k3 : List (List String) := [["6>0:1/2 6>1:1/2", "1>0:1/999 6>1:998/999"], ["1>0:1", "- 1>0:1"], ["1>3:1", "-", "-", "-"]]
theorem GK.lx {ks : List (List Tri)} (h : GK ks) : Lx 4 400 (ks.map kindT) := ⟨by rw [List.length_map]; exact h.n4, fun l hl => by
  obtain ⟨k, hk, rfl⟩ := List.mem_map.mp hl
  exact ⟨sokk_kindT k, kindT_400 (h.k k hk)⟩⟩
theorem GK.ne {ks : List (List Tri)} (h : GK ks) : ks.map kindT ≠ [] := fun z => by
  have := h.n1
  rw [List.map_eq_nil_iff.mp z] at this
  simp at this
end Fp
namespace Fp
open PySem PySem.Spec L2 Dn
/-- the life of a row and of the words behind a semicolon, or the first word that can't stand -/
def stepR (vs : List Rat) (i : Nat) : List Str → Sum Nat Life
  | [] => .inl (i + 1)
  | s :: rest => match chW s with
    | none => .inl (i + 1)
    | some q => if q = 0 ∨ q = 1 ∨ 1 < wholeV vs q then .inl (i + 1) else if rest = [] then .inr ⟨vs, q⟩ else .inl (i + 2)
def readR : List Str → List Rat → Nat → Sum Nat Life
  | [], vs, _ => .inr ⟨vs, 0⟩
  | w :: ws, vs, i => if w = Str.ofString ";" ∧ 0 < i then stepR vs i ws else match chW w with
    | none => .inl i
    | some q => if 1 < vs.sum + q then .inl i else readR ws (vs ++ [q]) (i + 1)
def textR : List Str → Sum Nat Life
  | [] => .inr ⟨[], 0⟩
  | w :: r => if w = Str.ofString "-" then (if r = [] then .inr ⟨[], 0⟩ else .inl 1) else readR (w :: r) [] 0
section
variable {ws : List Str} {vs : List Rat} {f : Feed}
def txtQ (p : Nat → Prop) (f : Feed) : Str → List (Str × PyData) → Feed → Prop := fun c e g => g = f ∧ c = "NoText" ∧ ∃ a : Nat, p a ∧ e = [(("at" : Str), PyData.int (a : Nat))]
theorem read_step_X (hv : vs ≠ []) (hr : RowF vs) (hi : vs.length < ws.length) (hl : ws.length ≤ 99999) (hm : ∀ w ∈ ws, w.length ≤ 90000) : Evx (F_read_step_X [.dat (.list (ws.map .str)), .dat (.list (vs.map enc))] f) (fun rv g => g = f ∧ ∃ L, stepR vs vs.length (ws.drop (vs.length + 1)) = .inr L ∧ rv = .dat (lifeD L)) (txtQ (fun a => stepR vs vs.length (ws.drop (vs.length + 1)) = .inl a) f) := by
  have lw : oLen (.list (ws.map .str)) = some (.dat (.int (ws.length : Nat))) := by rw [oLen_list, List.length_map]
  have lv : oLen (.list (vs.map enc)) = some (.dat (.int (vs.length : Nat))) := by rw [oLen_list, List.length_map]
  have st : seqOf (.list (vs.map enc)) = some (vs.map enc) := rfl
  rw [u_read_step_X]
  refine evx_dEndX ?_
  unfold S_read_step_X
  refine evx_step (fun ρ g => g = f ∧ ρ = [.dat (.list (ws.map .str)), .dat (.list (vs.map enc)), .dat (.int (vs.length : Nat)), .emp]) (by
    generalize PyData.list (ws.map .str) = W at *
    generalize PyData.list (vs.map enc) = V at *
    simp [lv]) ?_
  rintro _ f ⟨rfl, rfl⟩
  by_cases c1 : ws.length = vs.length + 1
  · have e : ws.drop (vs.length + 1) = [] := List.drop_eq_nil_iff.mpr (by omega)
    have i1 : ((ws.length : Nat) : Int) = (vs.length : Nat) + 1 := by omega
    have es : stepR vs vs.length (ws.drop (vs.length + 1)) = .inl (vs.length + 1) := by rw [e]; rfl
    rw [es]
    generalize PyData.list (ws.map .str) = W at *
    generalize PyData.list (vs.map enc) = V at *
    simp [lw, i1, c1]
    exact ⟨rfl, rfl, vs.length + 1, rfl, by simp⟩
  · obtain ⟨s, hs⟩ : ∃ s, ws[vs.length + 1]? = some s := ⟨_, List.getElem?_eq_getElem (by omega)⟩
    have hms := hm s (List.mem_of_getElem? hs)
    have ed : ws.drop (vs.length + 1) = s :: ws.drop (vs.length + 2) := by
      have h2 : vs.length + 1 < ws.length := by omega
      rw [List.getElem?_eq_getElem h2] at hs
      rw [← Option.some.inj hs]
      exact List.drop_eq_getElem_cons h2
    have i1 : ¬ ((ws.length : Nat) : Int) = (vs.length : Nat) + 1 := by omega
    have xs : oIx (.list (ws.map .str)) (.int ((vs.length : Nat) + 1)) = some (.dat (.str s)) := by
      rw [show ((vs.length : Nat) : Int) + 1 = ((vs.length + 1 : Nat) : Int) by omega, e_ix_list, Dn.atI_nat, List.getElem?_map, hs]
      rfl
    have ci := chance_in_q (f := f) (w := s) hms
    rw [ed]
    have es : stepR vs vs.length (s :: ws.drop (vs.length + 2)) = match chW s with
      | none => .inl (vs.length + 1)
      | some q => if q = 0 ∨ q = 1 ∨ 1 < wholeV vs q then .inl (vs.length + 1) else if ws.drop (vs.length + 2) = [] then .inr ⟨vs, q⟩ else .inl (vs.length + 2) := rfl
    rw [es]
    cases hc : chW s with
    | none =>
      rw [hc] at ci
      have ci : F_chance_in [.dat (.str s)] f = .ok (.dat .none) f := ci
      generalize PyData.list (ws.map .str) = W at *
      generalize PyData.list (vs.map enc) = V at *
      simp [-e_ix_list, lw, i1, c1, xs, ci]
      exact ⟨rfl, rfl, vs.length + 1, rfl, by simp⟩
    | some q =>
      obtain ⟨q0, q1, qd⟩ := chW_ok hc
      rw [hc] at ci
      have ci : F_chance_in [.dat (.str s)] f = .ok (.dat (enc q)) f := ci
      have il := is_life_V (f := f) hr hv q0 q1 qd
      have e0 : oEq (enc q) (.tuple [.int 0, .int 1]) = some (.dat (.bool (decide (q = 0)))) := eq_enc0
      have n0 : isNone (enc q) = false := rfl
      have eP : PyData.tuple [.tuple (vs.map enc), enc q] = lifeP vs q := rfl
      have eL : lifeP vs q = lifeD ⟨vs, q⟩ := rfl
      by_cases cz : q = 0
      · have er : (if q = 0 ∨ q = 1 ∨ 1 < wholeV vs q then Sum.inl (vs.length + 1) else if ws.drop (vs.length + 2) = [] then .inr (⟨vs, q⟩ : Life) else .inl (vs.length + 2)) = .inl (vs.length + 1) := if_pos (.inl cz)
        show Evx _ (RetX fun rv g => g = f ∧ ∃ L, (if q = 0 ∨ q = 1 ∨ 1 < wholeV vs q then Sum.inl (vs.length + 1) else if ws.drop (vs.length + 2) = [] then .inr (⟨vs, q⟩ : Life) else .inl (vs.length + 2)) = .inr L ∧ rv = .dat (lifeD L)) (txtQ (fun a => (if q = 0 ∨ q = 1 ∨ 1 < wholeV vs q then Sum.inl (vs.length + 1) else if ws.drop (vs.length + 2) = [] then .inr (⟨vs, q⟩ : Life) else .inl (vs.length + 2)) = .inl a) f)
        rw [er]
        rw [decide_eq_true cz] at e0
        generalize enc q = Q at *
        generalize PyData.list (ws.map .str) = W at *
        generalize PyData.list (vs.map enc) = V at *
        simp [-e_ix_list, lw, i1, c1, xs, ci, n0, e0]
        exact ⟨rfl, rfl, vs.length + 1, rfl, by simp⟩
      · rw [decide_eq_false cz] at e0
        by_cases cl : q < 1 ∧ wholeV vs q ≤ 1
        · have nb : ¬ (q = 0 ∨ q = 1 ∨ 1 < wholeV vs q) := by
            rintro (z | z | z)
            · exact cz z
            · have := cl.1
              rw [z] at this
              exact absurd this (by decide)
            · have := cl.2
              grind
          rw [decide_eq_true cl] at il
          by_cases cm : ws.drop (vs.length + 2) = []
          · have er : (if q = 0 ∨ q = 1 ∨ 1 < wholeV vs q then Sum.inl (vs.length + 1) else if ws.drop (vs.length + 2) = [] then .inr (⟨vs, q⟩ : Life) else .inl (vs.length + 2)) = .inr ⟨vs, q⟩ := by rw [if_neg nb, if_pos cm]
            show Evx _ (RetX fun rv g => g = f ∧ ∃ L, (if q = 0 ∨ q = 1 ∨ 1 < wholeV vs q then Sum.inl (vs.length + 1) else if ws.drop (vs.length + 2) = [] then .inr (⟨vs, q⟩ : Life) else .inl (vs.length + 2)) = .inr L ∧ rv = .dat (lifeD L)) (txtQ (fun a => (if q = 0 ∨ q = 1 ∨ 1 < wholeV vs q then Sum.inl (vs.length + 1) else if ws.drop (vs.length + 2) = [] then .inr (⟨vs, q⟩ : Life) else .inl (vs.length + 2)) = .inl a) f)
            rw [er]
            have i2 : ¬ (vs.length : Int) + 2 < (ws.length : Nat) := by
              have := List.drop_eq_nil_iff.mp cm
              omega
            have Z : ∃ L, Sum.inr ⟨vs, q⟩ = (Sum.inr L : Sum Nat Life) ∧ RV.dat (lifeP vs q) = .dat (lifeD L) := ⟨_, rfl, rfl⟩
            generalize lifeP vs q = D at *
            generalize enc q = Q at *
            generalize PyData.list (ws.map .str) = W at *
            generalize vs.map enc = V at *
            simp [-e_ix_list, lw, i1, c1, xs, ci, n0, e0, eP, il, i2]
            simpa using Z
          · have er : (if q = 0 ∨ q = 1 ∨ 1 < wholeV vs q then Sum.inl (vs.length + 1) else if ws.drop (vs.length + 2) = [] then .inr (⟨vs, q⟩ : Life) else .inl (vs.length + 2)) = .inl (vs.length + 2) := by rw [if_neg nb, if_neg cm]
            show Evx _ (RetX fun rv g => g = f ∧ ∃ L, (if q = 0 ∨ q = 1 ∨ 1 < wholeV vs q then Sum.inl (vs.length + 1) else if ws.drop (vs.length + 2) = [] then .inr (⟨vs, q⟩ : Life) else .inl (vs.length + 2)) = .inr L ∧ rv = .dat (lifeD L)) (txtQ (fun a => (if q = 0 ∨ q = 1 ∨ 1 < wholeV vs q then Sum.inl (vs.length + 1) else if ws.drop (vs.length + 2) = [] then .inr (⟨vs, q⟩ : Life) else .inl (vs.length + 2)) = .inl a) f)
            rw [er]
            have i2 : (vs.length : Int) + 2 < (ws.length : Nat) := by
              have : ¬ ws.length ≤ vs.length + 2 := fun z => cm (List.drop_eq_nil_iff.mpr z)
              omega
            generalize lifeP vs q = D at *
            generalize enc q = Q at *
            generalize PyData.list (ws.map .str) = W at *
            generalize vs.map enc = V at *
            simp [-e_ix_list, lw, i1, c1, xs, ci, n0, e0, eP, il, i2]
            exact ⟨rfl, rfl, vs.length + 2, rfl, by simp⟩
        · have nb : q = 0 ∨ q = 1 ∨ 1 < wholeV vs q := by
            by_cases a : q = 1
            · exact .inr (.inl a)
            · refine .inr (.inr ?_)
              have : q < 1 := by grind
              have : ¬ wholeV vs q ≤ 1 := fun z => cl ⟨this, z⟩
              grind
          rw [decide_eq_false cl] at il
          have er : (if q = 0 ∨ q = 1 ∨ 1 < wholeV vs q then Sum.inl (vs.length + 1) else if ws.drop (vs.length + 2) = [] then .inr (⟨vs, q⟩ : Life) else .inl (vs.length + 2)) = .inl (vs.length + 1) := if_pos nb
          show Evx _ (RetX fun rv g => g = f ∧ ∃ L, (if q = 0 ∨ q = 1 ∨ 1 < wholeV vs q then Sum.inl (vs.length + 1) else if ws.drop (vs.length + 2) = [] then .inr (⟨vs, q⟩ : Life) else .inl (vs.length + 2)) = .inr L ∧ rv = .dat (lifeD L)) (txtQ (fun a => (if q = 0 ∨ q = 1 ∨ 1 < wholeV vs q then Sum.inl (vs.length + 1) else if ws.drop (vs.length + 2) = [] then .inr (⟨vs, q⟩ : Life) else .inl (vs.length + 2)) = .inl a) f)
          rw [er]
          generalize lifeP vs q = D at *
          generalize enc q = Q at *
          generalize PyData.list (ws.map .str) = W at *
          generalize vs.map enc = V at *
          simp [-e_ix_list, lw, i1, c1, xs, ci, n0, e0, eP, il]
          exact ⟨rfl, rfl, vs.length + 1, rfl, by simp⟩
end
end Fp
namespace Fp
open PySem PySem.Spec L2 Dn
/-- a text of a fair size and few words -/
structure TxW (s : Str) : Prop where
  len : s.length ≤ 80000
  words : (Txt.split s sp).length ≤ 150
section
variable {ws : List Str} {vs : List Rat} {f : Feed} {s : Str} {q : Rat}
theorem RowF.more (h : RowF vs) (hl : vs.length < 160) (q0 : 0 ≤ q) (q1 : q ≤ 1) (qd : q.den < 1000) : RowF (vs ++ [q]) := ⟨fun x hx => by
  rcases List.mem_append.mp hx with hx | hx
  · exact h.c x hx
  · rw [List.mem_singleton.mp hx]
    exact ⟨q0, q1⟩, fun x hx => by
  rcases List.mem_append.mp hx with hx | hx
  · exact h.d x hx
  · rw [List.mem_singleton.mp hx]
    exact qd, by rw [List.length_append]; show vs.length + 1 ≤ 160; omega⟩
theorem evx_forP {T : Tgt} {s : Sm} {ρ : Rho} {P : Ctl → Feed → Prop} {Q : Str → List (Str × PyData) → Feed → Prop} (I : Nat → Rho → Feed → Prop) {ds : List PyData} (h : I 0 ρ f)
    (hs : ∀ i d ρ f, ds[i]? = some d → I i ρ f → ∃ ρ1, T.put d ρ = some ρ1 ∧ Evx (s ρ1 f) (LoopP (I (i + 1)) P) Q) (he : ∀ ρ f, I ds.length ρ f → P (.nx ρ) f) : Evx (forN T s ds ρ f) P Q := by
  have go : ∀ (r : List PyData) (i : Nat) (ρ : Rho) (f : Feed), ds.drop i = r → i ≤ ds.length → I i ρ f → Evx (forN T s r ρ f) P Q := by
    intro r
    induction r with
    | nil =>
      intro i ρ f e hi z
      have : ds.length ≤ i := List.drop_eq_nil_iff.mp e
      have e2 : i = ds.length := by omega
      subst e2
      exact evx_ok.mpr (he ρ f z)
    | cons d r ih =>
      intro i ρ f e hi z
      have g : ds[i]? = some d := by
        rw [← List.head?_drop, e]
        rfl
      have hl : i < ds.length := (List.getElem?_eq_some_iff.mp g).1
      have e2 : ds.drop (i + 1) = r := by
        rw [← List.tail_drop, e]
        rfl
      obtain ⟨ρ1, p, q⟩ := hs i d ρ f g z
      unfold forN
      rw [p]
      simp only
      rw [evx_bind]
      refine q.mono (fun c g2 hc => ?_) fun _ _ _ q => q
      cases c with
      | nx ρ2 => exact ih (i + 1) ρ2 g2 e2 hl hc
      | ct ρ2 => exact ih (i + 1) ρ2 g2 e2 hl hc
      | bk ρ2 => exact evx_ok.mpr hc
      | rt v => exact evx_ok.mpr hc
  exact go ds 0 ρ f rfl (Nat.zero_le _) h
/-- a statement that goes on or returns, then the rest -/
theorem evx_stepR {a b : Sm} {ρ : Rho} {P : Ctl → Feed → Prop} {Q : Str → List (Str × PyData) → Feed → Prop} (I : Rho → Feed → Prop) (h : Evx (a ρ f) (fun c g => (∃ ρ2, c = .nx ρ2 ∧ I ρ2 g) ∨ ∃ rv, c = .rt rv ∧ P (.rt rv) g) Q) (k : ∀ ρ2 g, I ρ2 g → Evx (b ρ2 g) P Q) : Evx (sSeq a b ρ f) P Q := by
  rw [e_seq, evx_bind]
  refine h.mono (fun c g hc => ?_) fun _ _ _ q => q
  rcases hc with ⟨ρ2, rfl, i⟩ | ⟨rv, rfl, p⟩
  · simp
    exact k ρ2 g i
  · simp
    exact p
theorem RowF.nil : RowF [] := ⟨fun _ h => (by cases h), fun _ h => (by cases h), by decide⟩
theorem sum_snoc (vs : List Rat) (q : Rat) : (vs ++ [q]).sum = vs.sum + q := by
  rw [sum_app, List.sum_cons, List.sum_nil, Rat.add_zero]
theorem read_life_X (h : TxW s) : Evx (F_read_life_X [.dat (.str s)] f) (fun rv g => g = f ∧ ∃ L, textR (Txt.split s sp) = .inr L ∧ rv = .dat (lifeD L)) (txtQ (fun a => textR (Txt.split s sp) = .inl a) f) := by
  have so := split_op s sp (by have := h.len; omega) (by unfold sp; decide +kernel)
  have sx : sp = Str.ofString " " := rfl
  have hw := split_sp_ne s
  have hn := h.words
  have hm : ∀ w ∈ Txt.split s sp, w.length ≤ 90000 := fun w hw => by have := split_mem hw; have := h.len; omega
  rw [u_read_life_X]
  refine evx_dEndX ?_
  unfold S_read_life_X
  rw [sx] at so hw hn hm ⊢
  generalize Txt.split s (Str.ofString " ") = ws at *
  refine evx_step (fun ρ g => g = f ∧ ρ = [.dat (.str s), .own (ws.map .str), .emp, .emp, .emp, .emp, .emp]) (by
    generalize ws.map PyData.str = W at *
    simp [-oSplit_str, so]) ?_
  rintro _ f ⟨rfl, rfl⟩
  refine evx_step (fun ρ g => g = f ∧ ρ = [.dat (.str s), .dat (.list (ws.map .str)), .emp, .emp, .emp, .emp, .emp]) (by
    generalize ws.map PyData.str = W at *
    simp) ?_
  rintro _ f ⟨rfl, rfl⟩
  obtain ⟨w0, r0, er⟩ : ∃ w r, ws = w :: r := by
    cases ws with
    | nil => exact absurd rfl hw
    | cons w r => exact ⟨w, r, rfl⟩
  have x0 : oIx (.list (ws.map .str)) (.int 0) = some (.dat (.str w0)) := by
    rw [er]
    simp
  have ll : oLen (.list (ws.map .str)) = some (.dat (.int (ws.length : Nat))) := by rw [oLen_list, List.length_map]
  by_cases cd0 : w0 = Str.ofString "-"
  · by_cases c1 : r0 = []
    · have e : textR ws = .inr ⟨[], 0⟩ := by
        rw [er]
        show (if w0 = Str.ofString "-" then (if r0 = [] then Sum.inr (⟨[], 0⟩ : Life) else .inl 1) else readR (w0 :: r0) [] 0) = _
        rw [if_pos cd0, if_pos c1]
      have l1 : ws.length = 1 := by rw [er, c1]; rfl
      have l1 : ¬ (1 : Int) < (ws.length : Nat) := by omega
      have Z : ∃ L, Sum.inr ⟨[], 0⟩ = (Sum.inr L : Sum Nat Life) ∧ RV.dat (.tuple [.tuple [], .tuple [.int 0, .int 1]]) = .dat (lifeD L) := ⟨_, rfl, rfl⟩
      rw [e]
      generalize PyData.list (ws.map .str) = W at *
      simp [x0, cd0, ll, l1]
      simpa using Z
    · have e : textR ws = .inl 1 := by
        rw [er]
        show (if w0 = Str.ofString "-" then (if r0 = [] then Sum.inr (⟨[], 0⟩ : Life) else .inl 1) else readR (w0 :: r0) [] 0) = _
        rw [if_pos cd0, if_neg c1]
      have l1 : 1 < ws.length := by
        rw [er, List.length_cons]
        have := List.length_pos_iff.mpr c1
        omega
      have l1 : (1 : Int) < (ws.length : Nat) := by omega
      rw [e]
      generalize PyData.list (ws.map .str) = W at *
      simp [x0, cd0, ll, l1]
      exact ⟨rfl, rfl, 1, rfl, rfl⟩
  · have ek : textR ws = readR ws [] 0 := by
      rw [er]
      show (if w0 = Str.ofString "-" then (if r0 = [] then Sum.inr (⟨[], 0⟩ : Life) else .inl 1) else readR (w0 :: r0) [] 0) = _
      rw [if_neg cd0]
    rw [ek]
    refine evx_step (fun ρ g => g = f ∧ ρ = [.dat (.str s), .dat (.list (ws.map .str)), .emp, .emp, .emp, .emp, .emp]) (by
      generalize PyData.list (ws.map .str) = W at *
      simp [x0, cd0]) ?_
    rintro _ f ⟨rfl, rfl⟩
    refine evx_step (fun ρ g => g = f ∧ ρ = [.dat (.str s), .dat (.list (ws.map .str)), .own [], .emp, .emp, .emp, .emp]) (by
      generalize PyData.list (ws.map .str) = W at *
      simp) ?_
    rintro _ f ⟨rfl, rfl⟩
    refine evx_step (fun ρ g => g = f ∧ ρ = [.dat (.str s), .dat (.list (ws.map .str)), .own [], .dat (.tuple [.int 0, .int 1]), .emp, .emp, .emp]) (by
      generalize PyData.list (ws.map .str) = W at *
      simp) ?_
    rintro _ f ⟨rfl, rfl⟩
    refine evx_stepR (fun ρ g => g = f ∧ ∃ vs, readR ws [] 0 = .inr ⟨vs, 0⟩ ∧ ∃ s3 s4 s5 s6 : Slot, ρ = [.dat (.str s), .dat (.list (ws.map .str)), .own (vs.map enc), s3, s4, s5, s6]) ?_ ?_
    · have it : iEnum (cVar 1) [.dat (.str s), .dat (.list (ws.map .str)), .own [], .dat (.tuple [.int 0, .int 1]), .emp, .emp, .emp] f = .ok ((List.range ws.length).map fun j => .tuple [.int (j : Nat), .str (ws.getD j Str.empty)]) f := by
        have pr := pairs_strs ws
        generalize ((List.range ws.length).map fun j => PyData.tuple [.int (j : Nat), .str (ws.getD j Str.empty)]) = P at *
        generalize ws.map PyData.str = W at *
        simp [pr]
      rw [e_for, it, bind_ok]
      refine evx_forP (I := fun i ρ g => g = f ∧ i ≤ ws.length ∧ ∃ vs, RowF vs ∧ vs.length = i ∧ readR ws [] 0 = readR (ws.drop i) vs i ∧ ∃ s4 s5 s6 : Slot, ρ = [.dat (.str s), .dat (.list (ws.map .str)), .own (vs.map enc), .dat (enc vs.sum), s4, s5, s6]) ⟨rfl, Nat.zero_le _, [], RowF.nil, rfl, rfl, _, _, _, rfl⟩ ?_ ?_
      · rintro i d ρ g hd ⟨rfl, hi, vs, hr, hvl, er2, s4, s5, s6, rfl⟩
        have hi2 : i < ws.length := by
          have := (List.getElem?_eq_some_iff.mp hd).1
          rwa [List.length_map, List.length_range] at this
        obtain ⟨w, hwi⟩ : ∃ w, ws[i]? = some w := ⟨_, List.getElem?_eq_getElem hi2⟩
        have hmw := hm w (List.mem_of_getElem? hwi)
        have ewi : ws.getD i Str.empty = w := by
          rw [List.getD_eq_getElem?_getD, hwi]
          rfl
        have ed : d = .tuple [.int (i : Nat), .str w] := by
          rw [List.getElem?_map, List.getElem?_range hi2] at hd
          rw [← ewi]
          exact (Option.some.inj hd).symm
        subst ed
        have edr : ws.drop i = w :: ws.drop (i + 1) := by
          rw [List.getElem?_eq_getElem hi2] at hwi
          rw [← Option.some.inj hwi]
          exact List.drop_eq_getElem_cons hi2
        rw [edr] at er2
        have er3 : readR ws [] 0 = if w = Str.ofString ";" ∧ 0 < i then stepR vs i (ws.drop (i + 1)) else match chW w with
          | none => .inl i
          | some q => if 1 < vs.sum + q then .inl i else readR (ws.drop (i + 1)) (vs ++ [q]) (i + 1) := er2
        refine ⟨[.dat (.str s), .dat (.list (ws.map .str)), .own (vs.map enc), .dat (enc vs.sum), .dat (.int (i : Nat)), .dat (.str w), s6], rfl, ?_⟩
        have Z : i + 1 ≤ ws.length := hi2
        have lt : (vs.map enc).length < 100000 := by rw [List.length_map]; have := hr.len; omega
        by_cases ca : w = Str.ofString ";" ∧ 0 < i
        · rw [if_pos ca] at er3
          have hv : vs ≠ [] := fun z => by rw [z] at hvl; simp at hvl; omega
          have rs := read_step_X (f := g) hv hr (by omega) (by omega) hm
          rw [hvl, ← er3] at rs
          have cw := ca.1
          have c0 : (0 : Int) < (i : Nat) := by omega
          have c00 := ca.2
          rcases rs with ⟨rv, g2, e1, rfl, L, eL, rfl⟩ | ⟨c, e, g2, e1, rfl, rfl, a, ea, rfl⟩
          · have Y : ∃ L', readR ws [] 0 = .inr L' ∧ RV.dat (lifeD L) = .dat (lifeD L') := ⟨L, eL, rfl⟩
            clear er3 er2 er hd edr ek
            generalize readR ws [] 0 = res at *
            generalize lifeD L = D at *
            generalize enc vs.sum = y at *
            generalize vs.map enc = A at *
            generalize PyData.list (ws.map .str) = W at *
            simp [cw, c0, c00, e1]
            simpa using Y
          · clear er3 er2 er hd edr ek
            rw [ea]
            generalize enc vs.sum = y at *
            generalize vs.map enc = A at *
            generalize PyData.list (ws.map .str) = W at *
            simp [cw, c0, c00, e1]
            exact ⟨rfl, rfl, a, rfl, rfl⟩
        · rw [if_neg ca] at er3
          refine evx_step (fun ρ g2 => g2 = g ∧ ρ = [.dat (.str s), .dat (.list (ws.map .str)), .own (vs.map enc), .dat (enc vs.sum), .dat (.int (i : Nat)), .dat (.str w), s6]) (by
            generalize enc vs.sum = y at *
            generalize vs.map enc = A at *
            generalize PyData.list (ws.map .str) = W at *
            by_cases cw : w = Str.ofString ";"
            · have c0 : ¬ (0 : Int) < (i : Nat) := fun z => ca ⟨cw, by omega⟩
              have c00 : ¬ 0 < i := fun z => ca ⟨cw, z⟩
              simp [cw, c0, c00]
            · simp [cw]) ?_
          rintro _ g ⟨rfl, rfl⟩
          have ci := chance_in_q (f := g) (w := w) hmw
          cases hc : chW w with
          | none =>
            rw [hc] at ci er3
            have ci : F_chance_in [.dat (.str w)] g = .ok (.dat .none) g := ci
            have er3 : readR ws [] 0 = .inl i := er3
            rw [er3]
            generalize enc vs.sum = y at *
            generalize vs.map enc = A at *
            generalize PyData.list (ws.map .str) = W at *
            simp [ci]
            exact ⟨rfl, rfl, i, rfl, rfl⟩
          | some q =>
            obtain ⟨q0, q1, qd⟩ := chW_ok hc
            rw [hc] at ci er3
            have ci : F_chance_in [.dat (.str w)] g = .ok (.dat (enc q)) g := ci
            have er3 : readR ws [] 0 = if 1 < vs.sum + q then .inl i else readR (ws.drop (i + 1)) (vs ++ [q]) (i + 1) := er3
            have n0 : isNone (enc q) = false := rfl
            have zs : Sz 2000 vs.sum := hr.sz
            have hr2 := hr.more (by omega) q0 q1 qd
            have zt : Sz 2000 (vs ++ [q]).sum := hr2.sz
            rw [sum_snoc] at zt
            have pl := plus_q (f := g) zs ((sz_chance q0 q1 qd).up (show 10 ≤ 2000 by decide)) (by decide)
            have z1 : Sz 40 (1 : Rat) := sz01 (D := 1) (by decide) ⟨1, by simp⟩ (by decide) (by decide) (by decide)
            have b1 := below_4 (f := g) (z1.up (show 40 ≤ 4000 by decide)) (zt.up (show 2000 ≤ 4000 by decide))
            rw [show enc 1 = .tuple [.int 1, .int 1] from rfl] at b1
            by_cases cs : 1 < vs.sum + q
            · rw [if_pos cs] at er3
              rw [decide_eq_true cs] at b1
              rw [er3]
              generalize enc (vs.sum + q) = y2 at *
              generalize enc vs.sum = y at *
              generalize enc q = Q at *
              generalize vs.map enc = A at *
              generalize PyData.list (ws.map .str) = W at *
              simp [ci, n0, pl, b1]
              exact ⟨rfl, rfl, i, rfl, rfl⟩
            · rw [if_neg cs] at er3
              rw [decide_eq_false cs] at b1
              have Y : ∃ vs', RowF vs' ∧ vs'.length = i + 1 ∧ readR ws [] 0 = readR (ws.drop (i + 1)) vs' (i + 1) ∧ ∃ s4 s5 s6 : Slot, [Slot.dat (.str s), .dat (.list (ws.map .str)), .own (vs.map enc ++ [enc q]), .dat (enc (vs.sum + q)), .dat (.int (i : Nat)), .dat (.str w), .dat (enc q)] = [.dat (.str s), .dat (.list (ws.map .str)), .own (vs'.map enc), .dat (enc vs'.sum), s4, s5, s6] := ⟨vs ++ [q], hr2, by rw [List.length_append, hvl]; rfl, er3, _, _, _, by rw [List.map_append, sum_snoc]; rfl⟩
              clear er3 er2 er hd edr ek
              generalize readR ws [] 0 = res at *
              generalize enc (vs.sum + q) = y2 at *
              generalize enc vs.sum = y at *
              generalize enc q = Q at *
              generalize vs.map enc = A at *
              generalize PyData.list (ws.map .str) = W at *
              simp [ci, n0, pl, b1, lt, Z]
              simpa using Y
      · rintro ρ g ⟨rfl, hi, vs, hr, hvl, er2, s4, s5, s6, rfl⟩
        rw [List.length_map, List.length_range, List.drop_length] at er2
        exact .inl ⟨_, rfl, rfl, vs, er2, _, _, _, _, rfl⟩
    rintro _ f ⟨rfl, vs, er2, s3, s4, s5, s6, rfl⟩
    have ekd : PyData.tuple [.tuple (vs.map enc), .tuple [.int 0, .int 1]] = lifeD ⟨vs, 0⟩ := rfl
    have Y : ∃ L, readR ws [] 0 = .inr L ∧ RV.dat (lifeD ⟨vs, 0⟩) = .dat (lifeD L) := ⟨_, er2, rfl⟩
    generalize readR ws [] 0 = res at *
    generalize PyData.list (ws.map .str) = W at *
    generalize lifeD ⟨vs, 0⟩ = D at *
    generalize vs.map enc = A at *
    simp [ekd]
    simpa using Y
def resLV : Sum Nat Life → RV
  | .inl a => .dat (.int (a : Nat))
  | .inr L => .own [lifeD L]
theorem told_life_q (h : TxW s) : F_q_told_v6 [.dat (.str s)] f = .ok (resLV (textR (Txt.split s sp))) f := by
  have rk := read_life_X (f := f) h
  apply ev_is
  rw [u_q_told_v6, ev_dEnd]
  unfold S_q_told_v6
  generalize textR (Txt.split s sp) = res at *
  rcases rk with ⟨rv, g2, e1, rfl, L, er, rfl⟩ | ⟨c, e, g2, e1, rfl, rfl, a, er, rfl⟩
  · rw [er]
    show Ev _ (RetP fun rv g => rv = .own [lifeD L] ∧ g = g2)
    clear er
    generalize lifeD L = D at *
    simp [e1]
  · rw [er]
    have n1 : oIsE "NoText" (excD "NoText" [(("at" : Str), PyData.int (a : Nat))]) = some (.dat (.bool true)) := rfl
    have n2 : oIsE "ValueError" (excD "NoText" [(("at" : Str), PyData.int (a : Nat))]) = some (.dat (.bool true)) := rfl
    have n3 : oIsEs ["NoAge", "NoBeat", "NoLines", "NoName", "NoPaper", "NoRatio", "NoRow", "TooMany"] (excD "NoText" [(("at" : Str), PyData.int (a : Nat))]) = some (.dat (.bool false)) := rfl
    have n4 : oFld "at" (excD "NoText" [(("at" : Str), PyData.int (a : Nat))]) = some (.dat (.int (a : Nat))) := rfl
    obtain ⟨D, en⟩ : ∃ D, excD "NoText" [(("at" : Str), PyData.int (a : Nat))] = D := ⟨_, rfl⟩
    rw [en] at n1 n2 n3 n4
    simp [-e_excD, e1, en, n1, n2, n3, n4, resLV]
end
end Fp
namespace Fp
open PySem PySem.Spec L2 Dn
section
variable {ws : List Str} {vs : List Rat} {f : Feed} {s : Str} {q : Rat}
/-- a step by what is left of one, by the law's own -/
theorem step_part (q0 : 0 ≤ q) (q1 : q < 1) (qd : q.den < 1000) : ∃ y, F_q_lowest [.dat (.int q.num), .dat (.int ((q.den : Nat) - q.num))] f = .ok (.dat (enc y)) f ∧ Sz 10 y ∧ y = q / (1 - q) := by
  have n0 := Rat.num_nonneg.mpr q0
  have n1 : q.num < (q.den : Int) := by
    have := (lt_num q 1).mpr q1
    have h1 : ((1 : Rat).den : Int) = 1 := rfl
    have h2 : (1 : Rat).num = 1 := rfl
    rw [h1, h2] at this
    omega
  obtain ⟨d, hd⟩ : ∃ d : Nat, ((q.den : Nat) : Int) - q.num = (d : Int) := ⟨((q.den : Nat) - q.num).toNat, by omega⟩
  have d0 : 0 < d := by omega
  refine ⟨mkRat q.num d, ?_, sz_mk d0 (by omega) (by omega), ?_⟩
  · rw [hd]
    exact lowest_big d0 (Nat.lt_trans (show d < 2 ^ 10 by omega) (Nat.pow_lt_pow_right (by decide) (by decide)))
  · have dq : (0 : Rat) < (q.den : Rat) := Rat.natCast_pos.mpr q.den_pos
    have dr : (0 : Rat) < (d : Rat) := Rat.natCast_pos.mpr d0
    have e1 : q * (q.den : Rat) = (q.num : Rat) := mul_den q
    have e2 : mkRat q.num d * (d : Rat) = (q.num : Rat) := by
      rw [Rat.mkRat_eq_div]
      exact Rat.div_mul_cancel (by grind)
    have e3 : (d : Rat) = (q.den : Rat) - (q.num : Rat) := by
      have : ((d : Int) : Rat) = (((q.den : Nat) : Int) - q.num : Int) := by rw [hd]
      rw [Rat.intCast_sub] at this
      exact this
    generalize mkRat q.num d = y at *
    generalize (q.num : Rat) = a at *
    generalize (q.den : Rat) = b at *
    generalize (d : Rat) = c at *
    have ne : 1 - q ≠ 0 := by grind
    have : y * (1 - q) = q := by
      have h3 : (y * (1 - q) - q) * b = 0 := by grind
      rcases Rat.mul_eq_zero.mp h3 with h | h <;> grind
    grind
theorem one_enc : enc 1 = .tuple [.int 1, .int 1] := rfl
noncomputable def S_stp : Sm := sSeq (sSet 5 (cIf (cT (cBin oLt (cBin oAdd (cVar 4) (cC (.int 1))) (cUn oLen (cVar 1)))) (cCall F_q_chance_v2 [cBin oIx (cVar 1) (cBin oAdd (cVar 4) (cC (.int 1)))]) (cC .none))) (sSeq (sIf (tOrX (cT (cBin (oIsN false) (cVar 5) (cC .none))) (tOrX (cT (cBin oEq (cBin oIx (cVar 5) (cC (.int 0))) (cC (.int 0)))) (cT (cBin oEq (cVar 5) (cTup [cC (.int 1), cC (.int 1)]))))) (sRet (cBin oAdd (cVar 4) (cC (.int 1)))) (sNext)) (sSeq (sSet 6 (cCall F_q_by [cBin oIx (cVar 2) (cUn oNeg (cC (.int 1))), cCall F_q_lowest [cBin oIx (cVar 5) (cC (.int 0)), cBin oSub (cBin oIx (cVar 5) (cC (.int 1))) (cBin oIx (cVar 5) (cC (.int 0)))]])) (sSeq (sIf (cT (cCall F_q_is_over [cCall F_q_add [cVar 3, cVar 6]])) (sRet (cBin oAdd (cVar 4) (cC (.int 1)))) (sNext)) (sRet (cIf (cT (cBin oGt (cUn oLen (cVar 1)) (cBin oAdd (cVar 4) (cC (.int 2))))) (cBin oAdd (cVar 4) (cC (.int 2))) (cLst [cTup [cUn oTuple (cVar 2), cVar 5]]))))))
theorem stp_ok {T : PyData} {s5 s6 s7 : Slot} (hv : vs ≠ []) (hr : RowF vs) (hi : vs.length < ws.length) (hl : ws.length ≤ 99999) (hm : ∀ w ∈ ws, w.length ≤ 90000) : Ev (S_stp [.dat T, .dat (.list (ws.map .str)), .own (vs.map enc), .dat (enc vs.sum), .dat (.int (vs.length : Nat)), s5, s6, s7] f) fun c g => g = f ∧ c = Ctl.rt (resLV (stepR vs vs.length (ws.drop (vs.length + 1)))) := by
  have lw : oLen (.list (ws.map .str)) = some (.dat (.int (ws.length : Nat))) := by rw [oLen_list, List.length_map]
  unfold S_stp
  by_cases c1 : ws.length = vs.length + 1
  · have e : ws.drop (vs.length + 1) = [] := List.drop_eq_nil_iff.mpr (by omega)
    have i1 : ¬ ((vs.length : Nat) : Int) + 1 < (ws.length : Nat) := by omega
    have es : stepR vs vs.length (ws.drop (vs.length + 1)) = .inl (vs.length + 1) := by rw [e]; rfl
    rw [es]
    show Ev _ fun c g => g = f ∧ c = Ctl.rt (.dat (.int ((vs.length + 1 : Nat) : Int)))
    generalize PyData.list (ws.map .str) = W at *
    generalize enc vs.sum = S at *
    generalize vs.map enc = V at *
    simp [lw, i1]
  · obtain ⟨s, hs⟩ : ∃ s, ws[vs.length + 1]? = some s := ⟨_, List.getElem?_eq_getElem (by omega)⟩
    have hms := hm s (List.mem_of_getElem? hs)
    have ed : ws.drop (vs.length + 1) = s :: ws.drop (vs.length + 2) := by
      have h2 : vs.length + 1 < ws.length := by omega
      rw [List.getElem?_eq_getElem h2] at hs
      rw [← Option.some.inj hs]
      exact List.drop_eq_getElem_cons h2
    have i1 : ((vs.length : Nat) : Int) + 1 < (ws.length : Nat) := by omega
    have xs : oIx (.list (ws.map .str)) (.int ((vs.length : Nat) + 1)) = some (.dat (.str s)) := by
      rw [show ((vs.length : Nat) : Int) + 1 = ((vs.length + 1 : Nat) : Int) by omega, e_ix_list, Dn.atI_nat, List.getElem?_map, hs]
      rfl
    have ci := q_chance_v2_q (f := f) (w := s) hms
    rw [ed]
    have es : stepR vs vs.length (s :: ws.drop (vs.length + 2)) = match chW s with
      | none => .inl (vs.length + 1)
      | some q => if q = 0 ∨ q = 1 ∨ 1 < wholeV vs q then .inl (vs.length + 1) else if ws.drop (vs.length + 2) = [] then .inr ⟨vs, q⟩ else .inl (vs.length + 2) := rfl
    rw [es]
    cases hc : chW s with
    | none =>
      rw [hc] at ci
      have ci : F_q_chance_v2 [.dat (.str s)] f = .ok (.dat .none) f := ci
      show Ev _ fun c g => g = f ∧ c = Ctl.rt (.dat (.int ((vs.length + 1 : Nat) : Int)))
      generalize PyData.list (ws.map .str) = W at *
      generalize enc vs.sum = S at *
      generalize vs.map enc = V at *
      simp [-e_ix_list, lw, i1, xs, ci]
    | some q =>
      obtain ⟨q0, q1, qd⟩ := chW_ok hc
      rw [hc] at ci
      have ci : F_q_chance_v2 [.dat (.str s)] f = .ok (.dat (enc q)) f := ci
      have n0 : isNone (enc q) = false := rfl
      have j0 : oIx (enc q) (.int 0) = some (.dat (.int q.num)) := rfl
      have j1 : oIx (enc q) (.int 1) = some (.dat (.int (q.den : Nat))) := rfl
      have eo := eq_enc (x := q) (y := 1)
      rw [one_enc] at eo
      show Ev _ fun c g => g = f ∧ c = Ctl.rt (resLV (if q = 0 ∨ q = 1 ∨ 1 < wholeV vs q then .inl (vs.length + 1) else if ws.drop (vs.length + 2) = [] then .inr ⟨vs, q⟩ else .inl (vs.length + 2)))
      by_cases cz : q = 0
      · have er : (if q = 0 ∨ q = 1 ∨ 1 < wholeV vs q then Sum.inl (vs.length + 1) else if ws.drop (vs.length + 2) = [] then .inr (⟨vs, q⟩ : Life) else .inl (vs.length + 2)) = .inl (vs.length + 1) := if_pos (.inl cz)
        rw [er]
        have nz : q.num = 0 := by rw [cz]; rfl
        show Ev _ fun c g => g = f ∧ c = Ctl.rt (.dat (.int ((vs.length + 1 : Nat) : Int)))
        rw [nz] at j0
        generalize enc q = Q at *
        generalize PyData.list (ws.map .str) = W at *
        generalize enc vs.sum = S at *
        generalize vs.map enc = V at *
        simp [-e_ix_list, lw, i1, xs, ci, n0, j0]
      · have nz : ¬ q.num = 0 := fun z => cz (Rat.num_eq_zero.mp z)
        by_cases co : q = 1
        · have er : (if q = 0 ∨ q = 1 ∨ 1 < wholeV vs q then Sum.inl (vs.length + 1) else if ws.drop (vs.length + 2) = [] then .inr (⟨vs, q⟩ : Life) else .inl (vs.length + 2)) = .inl (vs.length + 1) := if_pos (.inr (.inl co))
          rw [er]
          rw [decide_eq_true co] at eo
          show Ev _ fun c g => g = f ∧ c = Ctl.rt (.dat (.int ((vs.length + 1 : Nat) : Int)))
          generalize enc q = Q at *
          generalize PyData.list (ws.map .str) = W at *
          generalize enc vs.sum = S at *
          generalize vs.map enc = V at *
          simp [-e_ix_list, lw, i1, xs, ci, n0, j0, nz, eo]
        · rw [decide_eq_false co] at eo
          obtain ⟨y, ey, sy, hy⟩ := step_part (f := f) q0 (by grind) qd
          have la := last_at hv
          have xl : oIx (.list (vs.map enc)) (.int (-1)) = some (.dat (enc (vs.getLastD 0))) := by rw [e_ix_list, la]; rfl
          have hml : vs.getLastD 0 ∈ vs := by
            rw [List.getLastD_eq_getLast?, List.getLast?_eq_some_getLast hv]
            exact List.getLast_mem hv
          obtain ⟨l0, l1⟩ := hr.c _ hml
          have sl : Sz 10 (vs.getLastD 0) := sz_chance l0 l1 (hr.d _ hml)
          have by1 := q_by_q (f := f) sl sy (by decide)
          have ss : Sz 2000 vs.sum := hr.sz
          have ad := q_add_q (f := f) ss ((sl.mul sy).up (show 10 + 10 ≤ 2000 by decide)) (by decide)
          have ov := isover_q (f := f) (x := vs.sum + vs.getLastD 0 * y)
          have ew : vs.sum + vs.getLastD 0 * y = wholeV vs q := by
            unfold wholeV
            rw [hy]
            have : vs.getLastD 0 * (q / (1 - q)) = vs.getLastD 0 * q / (1 - q) := by grind
            rw [this]
          rw [ew] at ad ov
          generalize vs.getLastD 0 = l at *
          by_cases cw : 1 < wholeV vs q
          · have er : (if q = 0 ∨ q = 1 ∨ 1 < wholeV vs q then Sum.inl (vs.length + 1) else if ws.drop (vs.length + 2) = [] then .inr (⟨vs, q⟩ : Life) else .inl (vs.length + 2)) = .inl (vs.length + 1) := if_pos (.inr (.inr cw))
            rw [er]
            rw [decide_eq_true cw] at ov
            show Ev _ fun c g => g = f ∧ c = Ctl.rt (.dat (.int ((vs.length + 1 : Nat) : Int)))
            generalize enc (wholeV vs q) = Z at *
            generalize enc (l * y) = X at *
            generalize enc y = Y at *
            generalize enc l = L at *
            generalize enc q = Q at *
            generalize PyData.list (ws.map .str) = W at *
            generalize enc vs.sum = S at *
            generalize vs.map enc = V at *
            simp [-e_ix_list, lw, i1, xs, ci, n0, j0, j1, nz, eo, xl, ey, by1, ad, ov]
          · have nb : ¬ (q = 0 ∨ q = 1 ∨ 1 < wholeV vs q) := by
              rintro (z | z | z)
              · exact cz z
              · exact co z
              · exact cw z
            rw [decide_eq_false cw] at ov
            have eP : PyData.tuple [.tuple (vs.map enc), enc q] = lifeP vs q := rfl
            by_cases cm : ws.drop (vs.length + 2) = []
            · have er : (if q = 0 ∨ q = 1 ∨ 1 < wholeV vs q then Sum.inl (vs.length + 1) else if ws.drop (vs.length + 2) = [] then .inr (⟨vs, q⟩ : Life) else .inl (vs.length + 2)) = .inr ⟨vs, q⟩ := by rw [if_neg nb, if_pos cm]
              rw [er]
              show Ev _ fun c g => g = f ∧ c = Ctl.rt (.own [lifeP vs q])
              have i2 : ¬ (vs.length : Int) + 2 < (ws.length : Nat) := by
                have := List.drop_eq_nil_iff.mp cm
                omega
              generalize lifeP vs q = D at *
              generalize enc (wholeV vs q) = Z at *
              generalize enc (l * y) = X at *
              generalize enc y = Y at *
              generalize enc l = L at *
              generalize enc q = Q at *
              generalize PyData.list (ws.map .str) = W at *
              generalize enc vs.sum = S at *
              generalize vs.map enc = V at *
              simp [-e_ix_list, lw, i1, xs, ci, n0, j0, j1, nz, eo, xl, ey, by1, ad, ov, i2, eP]
            · have er : (if q = 0 ∨ q = 1 ∨ 1 < wholeV vs q then Sum.inl (vs.length + 1) else if ws.drop (vs.length + 2) = [] then .inr (⟨vs, q⟩ : Life) else .inl (vs.length + 2)) = .inl (vs.length + 2) := by rw [if_neg nb, if_neg cm]
              rw [er]
              show Ev _ fun c g => g = f ∧ c = Ctl.rt (.dat (.int ((vs.length + 2 : Nat) : Int)))
              have i2 : (vs.length : Int) + 2 < (ws.length : Nat) := by
                have : ¬ ws.length ≤ vs.length + 2 := fun z => cm (List.drop_eq_nil_iff.mpr z)
                omega
              generalize enc (wholeV vs q) = Z at *
              generalize enc (l * y) = X at *
              generalize enc y = Y at *
              generalize enc l = L at *
              generalize enc q = Q at *
              generalize PyData.list (ws.map .str) = W at *
              generalize enc vs.sum = S at *
              generalize vs.map enc = V at *
              simp [-e_ix_list, lw, i1, xs, ci, n0, j0, j1, nz, eo, xl, ey, by1, ad, ov, i2]
theorem q_read_life_q (h : TxW s) : F_q_read_life [.dat (.str s)] f = .ok (resLV (textR (Txt.split s sp))) f := by
  have so := split_op s sp (by have := h.len; omega) (by unfold sp; decide +kernel)
  have sx : sp = Str.ofString " " := rfl
  have hw := split_sp_ne s
  have hn := h.words
  have hm : ∀ w ∈ Txt.split s sp, w.length ≤ 90000 := fun w hw => by have := split_mem hw; have := h.len; omega
  apply ev_is
  rw [u_q_read_life, ev_dEnd]
  unfold S_q_read_life
  rw [sx] at so hw hn hm ⊢
  generalize Txt.split s (Str.ofString " ") = ws at *
  refine ev_step (fun ρ g => g = f ∧ ρ = [.dat (.str s), .own (ws.map .str), .emp, .emp, .emp, .emp, .emp, .emp]) (by
    generalize ws.map PyData.str = W at *
    simp [-oSplit_str, so]) ?_
  rintro _ f ⟨rfl, rfl⟩
  refine ev_step (fun ρ g => g = f ∧ ρ = [.dat (.str s), .dat (.list (ws.map .str)), .emp, .emp, .emp, .emp, .emp, .emp]) (by
    generalize ws.map PyData.str = W at *
    simp) ?_
  rintro _ f ⟨rfl, rfl⟩
  obtain ⟨w0, r0, er⟩ : ∃ w r, ws = w :: r := by
    cases ws with
    | nil => exact absurd rfl hw
    | cons w r => exact ⟨w, r, rfl⟩
  have x0 : oIx (.list (ws.map .str)) (.int 0) = some (.dat (.str w0)) := by
    rw [er]
    simp
  have ll : oLen (.list (ws.map .str)) = some (.dat (.int (ws.length : Nat))) := by rw [oLen_list, List.length_map]
  have xi : ∀ {i : Nat} {w : Str}, ws[i]? = some w → oIx (.list (ws.map .str)) (.int (i : Nat)) = some (.dat (.str w)) := fun {i w} h => by
    rw [e_ix_list, Dn.atI_nat, List.getElem?_map, h]
    rfl
  by_cases cd0 : w0 = Str.ofString "-"
  · by_cases c1 : r0 = []
    · have e : textR ws = .inr ⟨[], 0⟩ := by
        rw [er]
        show (if w0 = Str.ofString "-" then (if r0 = [] then Sum.inr (⟨[], 0⟩ : Life) else .inl 1) else readR (w0 :: r0) [] 0) = _
        rw [if_pos cd0, if_pos c1]
      have l1 : ws.length = 1 := by rw [er, c1]; rfl
      have l1 : ¬ (1 : Int) < (ws.length : Nat) := by omega
      have Z : RV.own [.tuple [.tuple [], .tuple [.int 0, .int 1]]] = resLV (.inr ⟨[], 0⟩) := rfl
      rw [e, ← Z]
      generalize PyData.list (ws.map .str) = W at *
      simp [x0, cd0, ll, l1]
    · have e : textR ws = .inl 1 := by
        rw [er]
        show (if w0 = Str.ofString "-" then (if r0 = [] then Sum.inr (⟨[], 0⟩ : Life) else .inl 1) else readR (w0 :: r0) [] 0) = _
        rw [if_pos cd0, if_neg c1]
      have l1 : 1 < ws.length := by
        rw [er, List.length_cons]
        have := List.length_pos_iff.mpr c1
        omega
      have l1 : (1 : Int) < (ws.length : Nat) := by omega
      rw [e]
      generalize PyData.list (ws.map .str) = W at *
      simp [x0, cd0, ll, l1, resLV]
  · have ek : textR ws = readR ws [] 0 := by
      rw [er]
      show (if w0 = Str.ofString "-" then (if r0 = [] then Sum.inr (⟨[], 0⟩ : Life) else .inl 1) else readR (w0 :: r0) [] 0) = _
      rw [if_neg cd0]
    rw [ek]
    refine ev_step (fun ρ g => g = f ∧ ρ = [.dat (.str s), .dat (.list (ws.map .str)), .emp, .emp, .emp, .emp, .emp, .emp]) (by
      generalize PyData.list (ws.map .str) = W at *
      simp [x0, cd0]) ?_
    rintro _ f ⟨rfl, rfl⟩
    refine ev_step (fun ρ g => g = f ∧ ρ = [.dat (.str s), .dat (.list (ws.map .str)), .own [], .emp, .emp, .emp, .emp, .emp]) (by
      generalize PyData.list (ws.map .str) = W at *
      simp) ?_
    rintro _ f ⟨rfl, rfl⟩
    refine ev_step (fun ρ g => g = f ∧ ρ = [.dat (.str s), .dat (.list (ws.map .str)), .own [], .dat (.tuple [.int 0, .int 1]), .emp, .emp, .emp, .emp]) (by
      generalize PyData.list (ws.map .str) = W at *
      simp) ?_
    rintro _ f ⟨rfl, rfl⟩
    refine ev_stepR (fun ρ g => g = f ∧ ∃ vs, readR ws [] 0 = .inr ⟨vs, 0⟩ ∧ ∃ s3 s4 s5 s6 s7 : Slot, ρ = [.dat (.str s), .dat (.list (ws.map .str)), .own (vs.map enc), s3, s4, s5, s6, s7]) ?_ ?_
    · have it : iRange1 (cUn oLen (cVar 1)) [.dat (.str s), .dat (.list (ws.map .str)), .own [], .dat (.tuple [.int 0, .int 1]), .emp, .emp, .emp, .emp] f = .ok (rangeD 0 ws.length) f := by
        have s1 : smallI (ws.length : Int) = true := smallI_ok (by omega) (by omega)
        generalize PyData.list (ws.map .str) = W at *
        simp [ll, s1]
      rw [e_for, it, ev_bind]
      refine Ev.of rfl ?_
      refine ev_for (I := fun i ρ g => g = f ∧ ∃ vs, RowF vs ∧ vs.length = i ∧ readR ws [] 0 = readR (ws.drop i) vs i ∧ ∃ s4 s5 s6 s7 : Slot, ρ = [.dat (.str s), .dat (.list (ws.map .str)), .own (vs.map enc), .dat (enc vs.sum), s4, s5, s6, s7]) ⟨rfl, [], RowF.nil, rfl, rfl, _, _, _, _, rfl⟩ ?_ ?_
      · rintro i d ρ g hd ⟨rfl, vs, hr, hvl, er2, s4, s5, s6, s7, rfl⟩
        obtain ⟨rfl, hi2⟩ := range_at hd
        have e0 : (0 : Int) + (i : Int) = ((i : Nat) : Int) := by omega
        rw [e0]
        refine ⟨_, rfl, ?_⟩
        obtain ⟨w, hwi⟩ : ∃ w, ws[i]? = some w := ⟨_, List.getElem?_eq_getElem hi2⟩
        have hmw := hm w (List.mem_of_getElem? hwi)
        have xw := xi hwi
        have edr : ws.drop i = w :: ws.drop (i + 1) := by
          rw [List.getElem?_eq_getElem hi2] at hwi
          rw [← Option.some.inj hwi]
          exact List.drop_eq_getElem_cons hi2
        rw [edr] at er2
        have er3 : readR ws [] 0 = if w = Str.ofString ";" ∧ 0 < i then stepR vs i (ws.drop (i + 1)) else match chW w with
          | none => .inl i
          | some q => if 1 < vs.sum + q then .inl i else readR (ws.drop (i + 1)) (vs ++ [q]) (i + 1) := er2
        have lt : (vs.map enc).length < 100000 := by rw [List.length_map]; have := hr.len; omega
        rw [← S_stp.eq_1]
        by_cases ca : w = Str.ofString ";" ∧ 0 < i
        · rw [if_pos ca] at er3
          have hv : vs ≠ [] := fun z => by rw [z] at hvl; simp at hvl; omega
          have rs := stp_ok (T := .str s) (f := g) (s5 := s5) (s6 := s6) (s7 := s7) hv hr (by omega) (by omega) hm
          rw [hvl, ← er3] at rs
          have cw := ca.1
          have c0 : (0 : Int) < (i : Nat) := by omega
          have c00 := ca.2
          obtain ⟨c, g2, e1, rfl, rfl⟩ := rs
          clear er3 er2 er hd edr ek
          generalize readR ws [] 0 = res at *
          generalize enc vs.sum = y at *
          generalize vs.map enc = A at *
          generalize PyData.list (ws.map .str) = W at *
          generalize S_stp = SS at *
          subst cw
          have up : (resLV res).up = resLV res := by cases res <;> rfl
          simp [-e_ix_list, xw, c0, c00, e1, up]
        · rw [if_neg ca] at er3
          refine ev_step (fun ρ g2 => g2 = g ∧ ρ = [.dat (.str s), .dat (.list (ws.map .str)), .own (vs.map enc), .dat (enc vs.sum), .dat (.int (i : Nat)), s5, s6, s7]) (by
            generalize enc vs.sum = y at *
            generalize vs.map enc = A at *
            generalize PyData.list (ws.map .str) = W at *
            generalize S_stp = SS at *
            by_cases cw : w = Str.ofString ";"
            · have c0 : ¬ (0 : Int) < (i : Nat) := fun z => ca ⟨cw, by omega⟩
              have c00 : ¬ 0 < i := fun z => ca ⟨cw, z⟩
              simp [-e_ix_list, xw, cw, c0, c00]
            · simp [-e_ix_list, xw, cw]) ?_
          rintro _ g ⟨rfl, rfl⟩
          have ci := q_chance_v2_q (f := g) (w := w) hmw
          cases hc : chW w with
          | none =>
            rw [hc] at ci er3
            have ci : F_q_chance_v2 [.dat (.str w)] g = .ok (.dat .none) g := ci
            have er3 : readR ws [] 0 = .inl i := er3
            rw [er3]
            generalize enc vs.sum = y at *
            generalize vs.map enc = A at *
            generalize PyData.list (ws.map .str) = W at *
            simp [-e_ix_list, xw, ci, resLV]
          | some q =>
            obtain ⟨q0, q1, qd⟩ := chW_ok hc
            rw [hc] at ci er3
            have ci : F_q_chance_v2 [.dat (.str w)] g = .ok (.dat (enc q)) g := ci
            have er3 : readR ws [] 0 = if 1 < vs.sum + q then .inl i else readR (ws.drop (i + 1)) (vs ++ [q]) (i + 1) := er3
            have n0 : isNone (enc q) = false := rfl
            have zs : Sz 2000 vs.sum := hr.sz
            have hr2 := hr.more (by omega) q0 q1 qd
            have pl := q_add_q (f := g) zs ((sz_chance q0 q1 qd).up (show 10 ≤ 2000 by decide)) (by decide)
            have b1 := isover_q (f := g) (x := vs.sum + q)
            by_cases cs : 1 < vs.sum + q
            · rw [if_pos cs] at er3
              rw [decide_eq_true cs] at b1
              rw [er3]
              generalize enc (vs.sum + q) = y2 at *
              generalize enc vs.sum = y at *
              generalize enc q = Q at *
              generalize vs.map enc = A at *
              generalize PyData.list (ws.map .str) = W at *
              simp [-e_ix_list, xw, ci, n0, pl, b1, resLV]
            · rw [if_neg cs] at er3
              rw [decide_eq_false cs] at b1
              have Y : ∃ vs', RowF vs' ∧ vs'.length = i + 1 ∧ readR ws [] 0 = readR (ws.drop (i + 1)) vs' (i + 1) ∧ ∃ s4 s5' s6' s7' : Slot, [Slot.dat (.str s), .dat (.list (ws.map .str)), .own (vs.map enc ++ [enc q]), .dat (enc (vs.sum + q)), .dat (.int (i : Nat)), s5, s6, .dat (enc q)] = [.dat (.str s), .dat (.list (ws.map .str)), .own (vs'.map enc), .dat (enc vs'.sum), s4, s5', s6', s7'] := ⟨vs ++ [q], hr2, by rw [List.length_append, hvl]; rfl, er3, _, _, _, _, by rw [List.map_append, sum_snoc]; rfl⟩
              clear er3 er2 er hd edr ek
              generalize readR ws [] 0 = res at *
              generalize enc (vs.sum + q) = y2 at *
              generalize enc vs.sum = y at *
              generalize enc q = Q at *
              generalize vs.map enc = A at *
              generalize PyData.list (ws.map .str) = W at *
              simp [-e_ix_list, xw, ci, n0, pl, b1, lt]
              simpa using Y
      · rintro ρ g ⟨rfl, vs, hr, hvl, er2, s4, s5, s6, s7, rfl⟩
        rw [range_len, List.drop_length] at er2
        exact .inl ⟨_, rfl, rfl, vs, er2, _, _, _, _, _, rfl⟩
    rintro _ f ⟨rfl, vs, er2, s3, s4, s5, s6, s7, rfl⟩
    have ekd : PyData.tuple [.tuple (vs.map enc), .tuple [.int 0, .int 1]] = lifeD ⟨vs, 0⟩ := rfl
    rw [er2]
    show Ev _ (RetP fun rv g => rv = .own [lifeD ⟨vs, 0⟩] ∧ g = f)
    generalize PyData.list (ws.map .str) = W at *
    generalize lifeD ⟨vs, 0⟩ = D at *
    generalize vs.map enc = A at *
    simp [ekd]
end
end Fp
namespace Fp
open PySem PySem.Spec L2 Dn
theorem sp_is : sp = ⟨#[32]⟩ := cd_inj (by rw [cd_sp])
def nw (s : Str) : Nat := (Txt.split s sp).length
theorem nw_eq (s : Str) : (nw s : Int) = 1 + PyProof.Rows.cnt 32 (cd s) := by
  have := PyProof.Rows.split_len s 32
  rw [← sp_is] at this
  exact this
theorem cnt_nn0 (l : List Nat) : 0 ≤ PyProof.Rows.cnt 32 l := cnt_nn 32 l
theorem nw_app (a b : Str) : nw (a ++ b) ≤ nw a + nw b := by
  have e := nw_eq (a ++ b)
  rw [cd_app, PyProof.Rows.cnt_append] at e
  have := nw_eq a
  have := nw_eq b
  omega
theorem cnt_part (l : List Nat) (i j : Nat) : PyProof.Rows.cnt 32 ((l.drop i).take j) ≤ PyProof.Rows.cnt 32 l := by
  have e1 : PyProof.Rows.cnt 32 l = PyProof.Rows.cnt 32 (l.take i) + PyProof.Rows.cnt 32 (l.drop i) := by
    rw [← PyProof.Rows.cnt_append, List.take_append_drop]
  have e2 : PyProof.Rows.cnt 32 (l.drop i) = PyProof.Rows.cnt 32 ((l.drop i).take j) + PyProof.Rows.cnt 32 ((l.drop i).drop j) := by
    rw [← PyProof.Rows.cnt_append, List.take_append_drop]
  have := cnt_nn0 (l.take i)
  have := cnt_nn0 ((l.drop i).drop j)
  omega
theorem nw_cut (s : Str) (lo hi : Option Int) : nw (cutS s lo hi) ≤ nw s := by
  have a := nw_eq (cutS s lo hi)
  have b := nw_eq s
  have e : cd (cutS s lo hi) = ((cd s).drop (HT.sIx s.length 0 lo)).take (HT.sIx s.length s.length hi - HT.sIx s.length 0 lo) := rfl
  rw [e] at a
  have := cnt_part (cd s) (HT.sIx s.length 0 lo) (HT.sIx s.length s.length hi - HT.sIx s.length 0 lo)
  omega
theorem cnt_rev (l : List Nat) : PyProof.Rows.cnt 32 l.reverse = PyProof.Rows.cnt 32 l := by
  induction l with
  | nil => rfl
  | cons a r ih => rw [List.reverse_cons, PyProof.Rows.cnt_append, ih, PyProof.Rows.cnt_cons, PyProof.Rows.cnt_cons, PyProof.Rows.cnt_nil]; omega
theorem nw_rev (s : Str) : nw (revS s) = nw s := by
  have a := nw_eq (revS s)
  have b := nw_eq s
  have e : cd (revS s) = (cd s).reverse := rfl
  rw [e, cnt_rev] at a
  omega
theorem nw_len (s : Str) : nw s ≤ s.length + 2 := split_sp_n s
theorem nw_join {ps : List Str} (h : ∀ p ∈ ps, 32 ∉ cd p) : nw (Txt.join sp ps) ≤ ps.length + 1 := by
  have a := nw_eq (Txt.join sp ps)
  have c := PyProof.Rows.cnt_join sp 32 (by rw [sp_is]; rfl) ps h
  rw [TL.join_eq] at a ⊢
  have e : cd (Str.join sp ps) = (Str.join sp ps).cps.toList := rfl
  rw [e, c] at a
  omega
/-- a text of a fair size and of few words -/
structure Ty (n M : Nat) (s : Str) : Prop where
  tx : Tx M s
  w : nw s ≤ n
theorem Ty.up {n M m N : Nat} {s : Str} (h : Ty n M s) (k : n ≤ m) (k2 : M ≤ N) : Ty m N s := ⟨h.tx.up k2, Nat.le_trans h.w k⟩
theorem Ty.cut {n M : Nat} {s : Str} (h : Ty n M s) (lo hi : Option Int) : Ty n M (cutS s lo hi) := ⟨h.tx.cut lo hi, Nat.le_trans (nw_cut s lo hi) h.w⟩
theorem Ty.rev {n M : Nat} {s : Str} (h : Ty n M s) : Ty n M (revS s) := ⟨h.tx.rev, by rw [nw_rev]; exact h.w⟩
theorem Ty.app {n M m N : Nat} {s t : Str} (h : Ty n M s) (k : Ty m N t) : Ty (n + m) (M + N) (s ++ t) := ⟨h.tx.app k.tx, Nat.le_trans (nw_app s t) (Nat.add_le_add h.w k.w)⟩
theorem Ty.txw {n M : Nat} {s : Str} (h : Ty n M s) (k : n ≤ 150) (k2 : M ≤ 80000) : TxW s := ⟨Nat.le_trans h.tx.len k2, Nat.le_trans h.w k⟩
section
variable {f : Feed} {n M : Nat} {s : Str} {t : Int}
theorem signed_w (h : Ty n M s) (hM : M ≤ 20000) (hF : Fd t f) (ht : t < 2 ^ 30) : Ev (F_q_signed [.feed, .dat (.str s)] f) fun rv g => ∃ z, rv = .dat (.str z) ∧ Ty (3 * n + 3) (3 * M + 10) z ∧ Fd (t + 3) g := by
  have hl := h.tx.len
  rw [u_q_signed, ev_dEnd]
  unfold S_q_signed
  refine ev_step (fun ρ g => ∃ a : Int, 0 ≤ a ∧ a < 4 ∧ Fd (t + 1) g ∧ ρ = [.feed, .dat (.str s), .dat (.int a), .emp, .emp, .emp, .emp]) (by
    simp
    refine Ev.drawnE (draw_v3_ok (by decide) (by decide) hF (by omega)) fun a g a0 a4 hF1 => ?_
    simp
    exact ⟨a, a0, a4, hF1, rfl⟩) ?_
  rintro _ g ⟨a, a0, a4, hF1, rfl⟩
  refine ev_step (fun ρ g => ∃ b : Int, 0 ≤ b ∧ b < (s.length : Int) + 1 ∧ Fd (t + 2) g ∧ ρ = [.feed, .dat (.str s), .dat (.int a), .dat (.int b), .emp, .emp, .emp]) (by
    simp [show s.length ≤ 100000 by omega]
    refine Ev.drawnE (draw_v3_ok (by omega) (Int.lt_trans (show (s.length : Int) + 1 < 2 ^ 30 by omega) (by decide)) hF1 (by omega)) fun b g b0 b4 hF2 => ?_
    simp
    exact ⟨b, b0, b4, hF2.up (by omega), rfl⟩) ?_
  rintro _ g ⟨b, b0, b4, hF2, rfl⟩
  refine ev_step (fun ρ g => ∃ z, Tx 1 z ∧ Fd (t + 3) g ∧ ρ = [.feed, .dat (.str s), .dat (.int a), .dat (.int b), .dat (.str z), .emp, .emp]) (by
    have sq := fun g => q_signs_q (f := g)
    have sp := sg_pos
    have sl := sg_tx.len
    have sa := fun i h0 h1 => sign_at (i := i) h0 h1
    generalize SG = S at *
    simp [sq, show S.length ≤ 100000 by omega]
    refine Ev.drawn (draw_v3_ok (by omega) (Int.lt_trans (show (S.length : Int) < 2 ^ 30 by omega) (by decide)) hF2 (by omega)) fun c g c0 c4 hF3 => ?_
    obtain ⟨z, ez, tz⟩ := sa c c0 c4
    simp [ez]
    exact ⟨tz, hF3.up (by omega)⟩) ?_
  rintro _ g ⟨z, tz, hF3, rfl⟩
  have tz : Ty 3 1 z := ⟨tz, Nat.le_trans (nw_len z) (by have := tz.len; omega)⟩
  have t1 := h.cut none (some b)
  have t2 := h.cut (some b) none
  have t3 := h.cut (some (b + 1)) none
  have t4 := h.cut (some (b + 2)) none
  have t5 := (h.cut (some b) (some (b + 2))).rev
  have t6 := h.cut (some b) (some (b + 2))
  refine ev_step (fun ρ g2 => g2 = g ∧ ρ = [.feed, .dat (.str s), .dat (.int a), .dat (.int b), .dat (.str z), .dat (.str (revS (cutS s (some b) (some (b + 2))))), .emp]) (by
    have t6 := t6.tx.len
    have t7 : (cutS s (some b) (some (b + 2))).length ≤ 100000 := by omega
    simp [show s.length ≤ 100000 by omega, oRevS, t7]) ?_
  rintro _ g ⟨rfl, rfl⟩
  have c1 := t1.tx.add tz.tx (by omega)
  have c2 := (t1.app tz).tx.add t2.tx (by omega)
  have c3 := (t1.app tz).tx.add t3.tx (by omega)
  have c4 := t1.tx.add t3.tx (by omega)
  have c5 := t1.tx.add t5.tx (by omega)
  have c6 := (t1.app t5).tx.add t4.tx (by omega)
  have d2 := ((t1.app tz).app t2).up (show n + 3 + n ≤ 3 * n + 3 by omega) (show M + 1 + M ≤ 3 * M + 10 by omega)
  have d3 := ((t1.app tz).app t3).up (show n + 3 + n ≤ 3 * n + 3 by omega) (show M + 1 + M ≤ 3 * M + 10 by omega)
  have d4 := (t1.app t3).up (show n + n ≤ 3 * n + 3 by omega) (show M + M ≤ 3 * M + 10 by omega)
  have d6 := ((t1.app t5).app t4).up (show n + n + n ≤ 3 * n + 3 by omega) (show M + M + M ≤ 3 * M + 10 by omega)
  have ls : s.length ≤ 100000 := by omega
  refine ev_step (fun ρ g2 => g2 = g ∧ ρ = [.feed, .dat (.str s), .dat (.int a), .dat (.int b), .dat (.str z), .dat (.str (revS (cutS s (some b) (some (b + 2))))), .own [.str (cutS s none (some b) ++ z ++ cutS s (some b) none), .str (cutS s none (some b) ++ z ++ cutS s (some (b + 1)) none), .str (cutS s none (some b) ++ cutS s (some (b + 1)) none)]]) (by
    simp [-oAdd_str, ls, c1, c2, c3, c4]) ?_
  rintro _ g ⟨rfl, rfl⟩
  refine ev_step (fun ρ g2 => g2 = g ∧ ρ = [.feed, .dat (.str s), .dat (.int a), .dat (.int b), .dat (.str z), .dat (.str (revS (cutS s (some b) (some (b + 2))))), .dat (.list [.str (cutS s none (some b) ++ z ++ cutS s (some b) none), .str (cutS s none (some b) ++ z ++ cutS s (some (b + 1)) none), .str (cutS s none (some b) ++ cutS s (some (b + 1)) none)])]) (by
    simp) ?_
  rintro _ g ⟨rfl, rfl⟩
  obtain rfl | rfl | rfl | rfl : a = 0 ∨ a = 1 ∨ a = 2 ∨ a = 3 := by omega
  · simp [-oAdd_str, ls, c5, c6]
    exact ⟨d2, hF3⟩
  · simp [-oAdd_str, ls, c5, c6]
    exact ⟨d3, hF3⟩
  · simp [-oAdd_str, ls, c5, c6]
    exact ⟨d4, hF3⟩
  · simp [-oAdd_str, ls, c5, c6]
    exact ⟨d6, hF3⟩
theorem split_free32 {l w : Str} (h : w ∈ Txt.split l sp) : 32 ∉ cd w := by
  rw [sp_is] at h
  exact StrLaws.split_free l 32 w h
theorem sum_appN (a b : List Nat) : (a ++ b).sum = a.sum + b.sum := by
  induction a with
  | nil => simp
  | cons x r ih => rw [List.cons_append, List.sum_cons, List.sum_cons, ih]; omega
theorem sum_leN {l : List Str} {k : Nat} (h : ∀ w ∈ l, w.length ≤ k) : (l.map fun (w : Str) => w.length).sum ≤ l.length * k := by
  induction l with
  | nil => simp
  | cons a r ih =>
    have := ih fun w hw => h w (List.mem_cons_of_mem _ hw)
    have := h a List.mem_cons_self
    rw [List.map_cons, List.sum_cons, List.length_cons, Nat.succ_mul]
    omega
/-- any words joined -/
theorem join_any {ps : List Str} {m K : Nat} (h : ∀ w ∈ ps, sokk w ∧ 32 ∉ cd w) (hs : (ps.map fun (w : Str) => w.length).sum + ps.length ≤ K) (hn : ps.length + 1 ≤ m) : Ty m K (Txt.join sp ps) := by
  refine ⟨⟨sokk_joinS (by unfold sp; exact sokk_of _) fun p hp => (h p hp).1, ?_⟩, Nat.le_trans (nw_join fun p hp => (h p hp).2) hn⟩
  have c := joinL_len (S := cd sp) (ps.map TL.tl)
  have e := TL.tl_join sp ps
  rw [cd_len, TL.join_eq]
  have e : cd (Str.join sp ps) = TL.joinL (cd sp) (ps.map TL.tl) := e
  rw [e]
  rw [cd_sp] at c ⊢
  rw [List.map_map (f := TL.tl), List.length_map] at c
  have s : (ps.map (List.length ∘ TL.tl)).sum = (ps.map fun (t : Str) => t.length).sum := congrArg List.sum (List.map_congr_left fun w _ => (cd_len w).symm)
  rw [s] at c
  simp only [List.length_singleton, Nat.mul_one] at c
  omega
theorem join_mid {A B mid : List Str} {l : Str} (h : Ty n M l) (hA : A.Sublist (Txt.split l sp)) (hB : B.Sublist (Txt.split l sp)) (hm : ∀ w ∈ mid, (sokk w ∧ 32 ∉ cd w) ∧ w.length ≤ M + 20) (h2 : mid.length ≤ 2) : Ty (3 * n + 3) (6 * M + 50) (Txt.join sp (A ++ mid ++ B)) ∧ ((A ++ mid ++ B).map fun (w : Str) => w.length).sum + (A ++ mid ++ B).length ≤ 6 * M + 50 := by
  have ss := split_sum l
  have sn := split_sp_n l
  have sA : (A.map fun (w : Str) => w.length).sum ≤ ((Txt.split l sp).map fun (w : Str) => w.length).sum := sub_sum (hA.map _)
  have sB : (B.map fun (w : Str) => w.length).sum ≤ ((Txt.split l sp).map fun (w : Str) => w.length).sum := sub_sum (hB.map _)
  have sm := sum_leN fun w hw => (hm w hw).2
  have sm2 : mid.length * (M + 20) ≤ 2 * (M + 20) := Nat.mul_le_mul_right _ h2
  have nA := hA.length_le
  have nB := hB.length_le
  have hl := h.tx.len
  have hw := h.w
  unfold nw at hw
  have tot : ((A ++ mid ++ B).map fun (w : Str) => w.length).sum + (A ++ mid ++ B).length ≤ 6 * M + 50 := by
    rw [List.map_append, List.map_append, sum_appN, sum_appN, List.length_append, List.length_append]
    omega
  refine ⟨join_any (fun w hw => ?_) tot (by rw [List.length_append, List.length_append]; omega), tot⟩
  rcases List.mem_append.mp hw with hw | hw
  · rcases List.mem_append.mp hw with hw | hw
    · exact ⟨sokk_split h.tx.ok (hA.mem hw), split_free32 (hA.mem hw)⟩
    · exact (hm w hw).1
  · exact ⟨sokk_split h.tx.ok (hB.mem hw), split_free32 (hB.mem hw)⟩
end
end Fp
namespace Fp
open PySem PySem.Spec L2 Dn
def cs26 : List String := ["", "0", "1", "-", ";", "1/2", "1/3", "2/4", "1/1", "0/1", "3/2", "2", "01", "1/02", "-1/2", "1/", "/2", "1/2/3", "998/999", "1/1000", "1/999", "00", "1/0", "+1", "1;2", "x"]
theorem const_w (cs : List String) (h : (cs.all fun x => decide ((Str.ofString x).length ≤ 20) && decide (32 ∉ cd (Str.ofString x))) = true) {i : Int} (h0 : 0 ≤ i) (h1 : i < (cs.length : Nat)) : ∃ z, atI (cs.map fun x => PyData.str (Str.ofString x)) i = some (.str z) ∧ (sokk z ∧ 32 ∉ cd z) ∧ z.length ≤ 20 := by
  obtain ⟨j, rfl⟩ : ∃ j : Nat, i = j := ⟨i.toNat, by omega⟩
  have hj : j < cs.length := by omega
  have := List.all_eq_true.mp h _ (List.getElem_mem hj)
  rw [Bool.and_eq_true, decide_eq_true_eq, decide_eq_true_eq] at this
  refine ⟨Str.ofString cs[j], ?_, ⟨sokk_of _, this.2⟩, this.1⟩
  rw [Dn.atI_nat, List.getElem?_map, List.getElem?_eq_getElem hj]
  rfl
theorem cut1 {ws : List Str} {b : Int} (b0 : 0 ≤ b) : ∃ ms : List Str, cutD (ws.map .str) (some b) (some (b + 1)) = ms.map .str ∧ ms.Sublist ws ∧ ms.length ≤ 1 := by
  obtain ⟨ms, e, sb⟩ := cut_sub ws (some b) (some (b + 1))
  refine ⟨ms, e, sb, ?_⟩
  have l : (cutD (ws.map .str) (some b) (some (b + 1))).length ≤ 1 := by
    obtain ⟨j, rfl⟩ : ∃ j : Nat, b = j := ⟨b.toNat, by omega⟩
    unfold cutD
    rw [show (j : Int) + 1 = ((j + 1 : Nat) : Int) by omega, HT.sIx_nat, HT.sIx_nat, List.length_take]
    omega
  rw [e, List.length_map] at l
  exact l
section
variable {f : Feed} {n M : Nat} {s : Str} {t : Int}
theorem worded_w (h : Ty n M s) (hM : M ≤ 10000) (hF : Fd t f) (ht : t < 2 ^ 30) : Ev (F_q_worded [.feed, .dat (.str s)] f) fun rv g => ∃ z, rv = .dat (.str z) ∧ Ty (3 * n + 3) (6 * M + 50) z ∧ Fd (t + 3) g := by
  have hl := h.tx.len
  have so := split_op s sp (by omega) (by unfold sp; decide +kernel)
  have sn := split_sp_n s
  have sx : sp = Str.ofString " " := rfl
  rw [u_q_worded, ev_dEnd]
  unfold S_q_worded
  refine ev_step (fun ρ g2 => g2 = f ∧ ρ = [.feed, .dat (.str s), .own ((Txt.split s sp).map .str), .emp, .emp, .emp, .emp]) (by
    rw [sx] at so ⊢
    generalize (Txt.split s (Str.ofString " ")).map PyData.str = S at *
    simp [-oSplit_str, so]) ?_
  rintro _ f ⟨rfl, rfl⟩
  refine ev_step (fun ρ g2 => g2 = f ∧ ρ = [.feed, .dat (.str s), .dat (.list ((Txt.split s sp).map .str)), .emp, .emp, .emp, .emp]) (by
    generalize (Txt.split s sp).map PyData.str = S at *
    simp) ?_
  rintro _ f ⟨rfl, rfl⟩
  have lw : oLen (.list ((Txt.split s sp).map .str)) = some (.dat (.int ((Txt.split s sp).length : Nat))) := by rw [oLen_list, List.length_map]
  have slw : ∀ lo hi, ∃ ms : List Str, oSl lo hi (.list ((Txt.split s sp).map .str)) = some (.own (ms.map .str)) ∧ ms.Sublist (Txt.split s sp) := fun lo hi => by
    obtain ⟨ms, e, sb⟩ := cut_sub (Txt.split s sp) lo hi
    exact ⟨ms, by show some (RV.own (cutD ((Txt.split s sp).map .str) lo hi)) = _; rw [e], sb⟩
  refine ev_step (fun ρ g => ∃ a : Int, 0 ≤ a ∧ a < 4 ∧ Fd (t + 1) g ∧ ρ = [.feed, .dat (.str s), .dat (.list ((Txt.split s sp).map .str)), .dat (.int a), .emp, .emp, .emp]) (by
    generalize PyData.list ((Txt.split s sp).map .str) = S at *
    simp
    refine Ev.drawnE (draw_v3_ok (by decide) (by decide) hF (by omega)) fun a g a0 a4 hF1 => ?_
    simp
    exact ⟨a, a0, a4, hF1, rfl⟩) ?_
  rintro _ g ⟨a, a0, a4, hF1, rfl⟩
  refine ev_step (fun ρ g => ∃ b : Int, 0 ≤ b ∧ Fd (t + 2) g ∧ ρ = [.feed, .dat (.str s), .dat (.list ((Txt.split s sp).map .str)), .dat (.int a), .dat (.int b), .emp, .emp]) (by
    generalize PyData.list ((Txt.split s sp).map .str) = S at *
    simp [lw]
    refine Ev.drawnE (draw_v3_ok (by omega) (Int.lt_trans (show ((Txt.split s sp).length : Int) + 1 < 2 ^ 30 by omega) (by decide)) hF1 (by omega)) fun b g b0 b4 hF2 => ?_
    simp
    exact ⟨b0, hF2.up (by omega)⟩) ?_
  rintro _ g ⟨b, b0, hF2, rfl⟩
  refine ev_step (fun ρ g2 => g2 = g ∧ ρ = [.feed, .dat (.str s), .dat (.list ((Txt.split s sp).map .str)), .dat (.int a), .dat (.int b), .own ((cs26.take 17).map fun x => .str (Str.ofString x)), .emp]) (by
    generalize PyData.list ((Txt.split s sp).map .str) = S at *
    simp [cs26]) ?_
  rintro _ g ⟨rfl, rfl⟩
  refine ev_step (fun ρ g2 => g2 = g ∧ ρ = [.feed, .dat (.str s), .dat (.list ((Txt.split s sp).map .str)), .dat (.int a), .dat (.int b), .dat (.list ((cs26.take 17).map fun x => .str (Str.ofString x))), .emp]) (by
    generalize ((cs26.take 17).map fun x => PyData.str (Str.ofString x)) = C at *
    generalize PyData.list ((Txt.split s sp).map .str) = S at *
    simp) ?_
  rintro _ g ⟨rfl, rfl⟩
  have e26 : ∀ C5 : List PyData, C5 = ([.str (Str.ofString "1/2/3"), .str (Str.ofString "998/999"), .str (Str.ofString "1/1000"), .str (Str.ofString "1/999"), .str (Str.ofString "00"), .str (Str.ofString "1/0"), .str (Str.ofString "+1"), .str (Str.ofString "1;2"), .str (Str.ofString "x")] : List PyData) → oAdd (.list ((cs26.take 17).map fun x => .str (Str.ofString x))) (.list C5) = some (.own (cs26.map fun x => .str (Str.ofString x))) := fun C5 h => by
    rw [h, oAdd_list, if_pos (by decide)]
    rfl
  have e26 := e26 _ rfl
  refine ev_step (fun ρ g2 => g2 = g ∧ ρ = [.feed, .dat (.str s), .dat (.list ((Txt.split s sp).map .str)), .dat (.int a), .dat (.int b), .own (cs26.map fun x => .str (Str.ofString x)), .emp]) (by
    generalize (cs26.map fun x => PyData.str (Str.ofString x)) = C2 at *
    generalize ((cs26.take 17).map fun x => PyData.str (Str.ofString x)) = C at *
    generalize PyData.list ((Txt.split s sp).map .str) = S at *
    simp [-oAdd_list, e26]) ?_
  rintro _ g ⟨rfl, rfl⟩
  refine ev_step (fun ρ g2 => g2 = g ∧ ρ = [.feed, .dat (.str s), .dat (.list ((Txt.split s sp).map .str)), .dat (.int a), .dat (.int b), .dat (.list (cs26.map fun x => .str (Str.ofString x))), .emp]) (by
    generalize (cs26.map fun x => PyData.str (Str.ofString x)) = C2 at *
    generalize PyData.list ((Txt.split s sp).map .str) = S at *
    simp) ?_
  rintro _ g ⟨rfl, rfl⟩
  clear e26
  have cb := fun i h0 h1 => const_w cs26 (by decide +kernel) (i := i) h0 h1
  have cl2 : (cs26.length : Nat) = 26 := rfl
  rw [cl2] at cb
  refine ev_step (fun ρ g => ∃ z, ((sokk z ∧ 32 ∉ cd z) ∧ z.length ≤ 20) ∧ Fd (t + 3) g ∧ ρ = [.feed, .dat (.str s), .dat (.list ((Txt.split s sp).map .str)), .dat (.int a), .dat (.int b), .dat (.list (cs26.map fun x => .str (Str.ofString x))), .dat (.str z)]) (by
    generalize (cs26.map fun x => PyData.str (Str.ofString x)) = C2 at *
    generalize PyData.list ((Txt.split s sp).map .str) = S at *
    simp
    refine Ev.drawn (draw_v3_ok (by decide) (by decide) hF2 (by omega)) fun d g d0 d1 hF4 => ?_
    obtain ⟨z, ez, tz⟩ := cb d d0 d1
    simp [ez]
    exact ⟨⟨⟨tz.1.1, by simpa using tz.1.2⟩, tz.2⟩, hF4.up (by omega)⟩) ?_
  rintro _ g ⟨z, tz, hF3, rfl⟩
  clear cb
  generalize PyData.list (cs26.map fun x => .str (Str.ofString x)) = C2 at *
  obtain ⟨v1, w1, s1⟩ := slw none (some b)
  obtain ⟨v2, w2, s2⟩ := slw (some (b + 1)) none
  obtain ⟨v3, w3, s3⟩ := slw (some b) none
  obtain ⟨c, wc, sc, lc⟩ : ∃ ms : List Str, oSl (some b) (some (b + 1)) (.list ((Txt.split s sp).map .str)) = some (.own (ms.map .str)) ∧ ms.Sublist (Txt.split s sp) ∧ ms.length ≤ 1 := by
    obtain ⟨ms, e, sb, l1⟩ := cut1 (ws := Txt.split s sp) b0
    exact ⟨ms, by show some (RV.own (cutD ((Txt.split s sp).map .str) (some b) (some (b + 1)))) = _; rw [e], sb, l1⟩
  have mc : ∀ w ∈ c, (sokk w ∧ 32 ∉ cd w) ∧ w.length ≤ M + 20 := fun w hw => ⟨⟨sokk_split h.tx.ok (sc.mem hw), split_free32 (sc.mem hw)⟩, by have := split_mem (sc.mem hw); omega⟩
  have mu : oMul (.list (c.map .str)) (.int 2) = some (.own ((c ++ c).map .str)) := by
    rw [oMul_list, if_pos ⟨by decide, by decide, by rw [List.length_map]; omega⟩, List.map_append]
    simp [List.replicate]
  have n1 := s1.length_le
  -- the three parts joined
  have go : ∀ (mid v : List Str), v.Sublist (Txt.split s sp) → (∀ w ∈ mid, (sokk w ∧ 32 ∉ cd w) ∧ w.length ≤ M + 20) → mid.length ≤ 2 →
      oAdd (.list (v1.map .str)) (.list (mid.map .str)) = some (.own ((v1 ++ mid).map .str)) ∧ oAdd (.list ((v1 ++ mid).map .str)) (.list (v.map .str)) = some (.own ((v1 ++ mid ++ v).map .str)) ∧ oJoin (.str (Str.ofString " ")) (.list ((v1 ++ mid ++ v).map .str)) = some (.dat (.str (Txt.join sp (v1 ++ mid ++ v)))) ∧ Ty (3 * n + 3) (6 * M + 50) (Txt.join sp (v1 ++ mid ++ v)) := fun mid v hv hm h2 => by
    obtain ⟨ty, tot⟩ := join_mid h s1 hv hm h2
    have nv := hv.length_le
    refine ⟨?_, ?_, join_op ty.tx (by omega), ty⟩
    · rw [oAdd_list, if_pos (by rw [List.length_map, List.length_map]; omega), List.map_append]
    · rw [oAdd_list, if_pos (by rw [List.length_map, List.length_map, List.length_append]; omega), ← List.map_append]
  obtain rfl | rfl | rfl | rfl : a = 0 ∨ a = 1 ∨ a = 2 ∨ a = 3 := by omega
  · obtain ⟨k1, k2, k3, ty⟩ := go [] v2 s2 (fun w hw => by cases hw) (by decide)
    have k1 : oAdd (.list (v1.map .str)) (.list []) = some (.own ((v1 ++ []).map .str)) := k1
    generalize Txt.join sp (v1 ++ [] ++ v2) = J at *
    generalize (v1 ++ [] ++ v2).map PyData.str = V0 at *
    generalize (v1 ++ []).map PyData.str = V1 at *
    generalize v1.map PyData.str = A at *
    generalize v2.map PyData.str = B at *
    generalize (c ++ c).map PyData.str = CC at *
    generalize c.map PyData.str = C at *
    generalize PyData.list ((Txt.split s sp).map .str) = S at *
    simp [-oAdd_list, -oMul_list, w1, w2, wc, mu, k1, k2, k3]
    exact ⟨ty, hF3⟩
  · obtain ⟨k1, k2, k3, ty⟩ := go [z] v2 s2 (fun w hw => by rw [List.mem_singleton.mp hw]; exact ⟨tz.1, by have := tz.2; omega⟩) (by simp)
    have k1 : oAdd (.list (v1.map .str)) (.list [.str z]) = some (.own ((v1 ++ [z]).map .str)) := k1
    generalize Txt.join sp (v1 ++ [z] ++ v2) = J at *
    generalize (v1 ++ [z] ++ v2).map PyData.str = V0 at *
    generalize (v1 ++ [z]).map PyData.str = V1 at *
    generalize v1.map PyData.str = A at *
    generalize v2.map PyData.str = B at *
    generalize (c ++ c).map PyData.str = CC at *
    generalize c.map PyData.str = C at *
    generalize PyData.list ((Txt.split s sp).map .str) = S at *
    simp [-oAdd_list, -oMul_list, w1, w2, wc, mu, k1, k2, k3]
    exact ⟨ty, hF3⟩
  · obtain ⟨k1, k2, k3, ty⟩ := go (c ++ c) v2 s2 (fun w hw => (List.mem_append.mp hw).elim (mc w) (mc w)) (by rw [List.length_append]; omega)
    generalize Txt.join sp (v1 ++ (c ++ c) ++ v2) = J at *
    generalize (v1 ++ (c ++ c) ++ v2).map PyData.str = V0 at *
    generalize (v1 ++ (c ++ c)).map PyData.str = V1 at *
    generalize v1.map PyData.str = A at *
    generalize v2.map PyData.str = B at *
    generalize (c ++ c).map PyData.str = CC at *
    generalize c.map PyData.str = C at *
    generalize PyData.list ((Txt.split s sp).map .str) = S at *
    simp [-oAdd_list, -oMul_list, w1, w2, wc, mu, k1, k2, k3]
    exact ⟨ty, hF3⟩
  · obtain ⟨k1, k2, k3, ty⟩ := go [z] v3 s3 (fun w hw => by rw [List.mem_singleton.mp hw]; exact ⟨tz.1, by have := tz.2; omega⟩) (by simp)
    have k1 : oAdd (.list (v1.map .str)) (.list [.str z]) = some (.own ((v1 ++ [z]).map .str)) := k1
    generalize Txt.join sp (v1 ++ [z] ++ v3) = J at *
    generalize (v1 ++ [z] ++ v3).map PyData.str = V0 at *
    generalize (v1 ++ [z]).map PyData.str = V1 at *
    generalize v1.map PyData.str = A at *
    generalize v3.map PyData.str = B at *
    generalize (c ++ c).map PyData.str = CC at *
    generalize c.map PyData.str = C at *
    generalize PyData.list ((Txt.split s sp).map .str) = S at *
    simp [-oAdd_list, -oMul_list, w1, w3, wc, mu, k1, k2, k3]
    exact ⟨ty, hF3⟩
end
end Fp
namespace Fp
open PySem PySem.Spec L2 Dn
theorem rep_own {d : PyData} {k : Nat} (hk : k ≤ 1000) : oMul (.list [d]) (.int (k : Nat)) = some (.own (List.replicate k d)) := by
  rw [oMul_list, if_pos ⟨by omega, by omega, by simp⟩, Int.toNat_natCast]
  congr 2
  induction k with
  | zero => rfl
  | succ k ih => rw [List.replicate_succ, List.replicate_succ, List.flatten_cons, ih (by omega)]; rfl
/-- a short word -/
def wd (w : Str) : Prop := (sokk w ∧ 32 ∉ cd w) ∧ w.length ≤ 20
theorem wd_of (x : String) (h : (decide ((Str.ofString x).length ≤ 20) && decide (32 ∉ cd (Str.ofString x))) = true) : wd (Str.ofString x) := by
  rw [Bool.and_eq_true, decide_eq_true_eq, decide_eq_true_eq] at h
  exact ⟨⟨sokk_of _, h.2⟩, h.1⟩
theorem wd_rep {w : Str} {k : Nat} (h : wd w) : ∀ v ∈ List.replicate k w, wd v := fun v hv => by rw [List.eq_of_mem_replicate hv]; exact h
theorem wd_app {A B : List Str} (h : ∀ w ∈ A, wd w) (k : ∀ w ∈ B, wd w) : ∀ w ∈ A ++ B, wd w := fun w hw => (List.mem_append.mp hw).elim (h w) (k w)
theorem wd_set {A : List Str} {w : Str} (h : ∀ w ∈ A, wd w) (k : wd w) (j : Nat) : ∀ v ∈ A.set j w, wd v := fun v hv => (List.mem_or_eq_of_mem_set hv).elim (h v) fun e => by rw [e]; exact k
theorem join_wd {ps : List Str} {m : Nat} (h : ∀ w ∈ ps, wd w) (hn : ps.length ≤ m) : Ty (m + 1) (21 * m) (Txt.join sp ps) ∧ (ps.map fun (w : Str) => w.length).sum + ps.length ≤ 21 * m := by
  have s := sum_leN fun w hw => (h w hw).2
  have tot : (ps.map fun (w : Str) => w.length).sum + ps.length ≤ 21 * m := by omega
  exact ⟨join_any (fun w hw => (h w hw).1) tot (by omega), tot⟩
theorem join_wdO {ps : List Str} {m : Nat} (h : ∀ w ∈ ps, wd w) (hn : ps.length ≤ m) (hm : m ≤ 1000) : oJoin (.str (Str.ofString " ")) (.list (ps.map .str)) = some (.dat (.str (Txt.join sp ps))) := by
  obtain ⟨a, b⟩ := join_wd h hn
  exact join_op a.tx (by omega)
theorem const_wd (cs : List String) (h : (cs.all fun x => decide ((Str.ofString x).length ≤ 20) && decide (32 ∉ cd (Str.ofString x))) = true) {i : Int} (h0 : 0 ≤ i) (h1 : i < (cs.length : Nat)) : ∃ z, atI (cs.map fun x => PyData.str (Str.ofString x)) i = some (.str z) ∧ wd z := const_w cs h h0 h1
section
variable {f : Feed} {t : Int}
theorem wide_w (hF : Fd t f) (ht : t < 2 ^ 28) : Ev (F_q_wide_texts [.feed] f) fun rv g => ∃ zs : List Str, rv = .own (zs.map .str) ∧ zs.length = 4 ∧ ∀ z ∈ zs, Ty 150 80000 z := by
  have z0 : wd (Str.ofString "0") := wd_of "0" (by decide +kernel)
  have zs : wd (Str.ofString ";") := wd_of ";" (by decide +kernel)
  have ca := fun i h0 h1 => const_wd ["1/2", "1/3", "1/999", "1"] (by decide +kernel) (i := i) h0 h1
  have cb := fun i h0 h1 => const_wd ["1/2", "1/3", "2/3", "998/999"] (by decide +kernel) (i := i) h0 h1
  simp only [List.length_cons, List.length_nil, List.map_cons, List.map_nil] at ca cb
  rw [u_q_wide_texts, ev_dEnd]
  unfold S_q_wide_texts
  refine ev_step (fun ρ g => ∃ (k : Nat) (x : Str), k ≤ 41 ∧ wd x ∧ Fd (t + 2) g ∧ ρ = [.feed, .own ((List.replicate k (Str.ofString "0") ++ [x, Str.ofString ";"]).map .str), .emp]) (by
    simp [-oMul_list, -oAdd_list]
    refine Ev.drawn (draw_v3_ok (by decide) (by decide) hF (by omega)) fun d g d0 d1 hF1 => ?_
    obtain ⟨k, rfl⟩ : ∃ k : Nat, d = k := ⟨d.toNat, by omega⟩
    have r := rep_own (d := .str (Str.ofString "0")) (k := 13 + k) (by omega)
    rw [show ((13 + k : Nat) : Int) = 13 + (k : Int) by omega] at r
    simp [-oMul_list, -oAdd_list, r]
    refine Ev.drawn (draw_v3_ok (by decide) (by decide) hF1 (by omega)) fun d g d0 d1 hF2 => ?_
    obtain ⟨x, ex, hx⟩ := ca d d0 d1
    have a : oAdd (.list (List.replicate (13 + k) (.str (Str.ofString "0")))) (.list [.str x, .str (Str.ofString ";")]) = some (.own ((List.replicate (13 + k) (Str.ofString "0") ++ [x, Str.ofString ";"]).map .str)) := by
      rw [oAdd_list, if_pos (by simp; omega), List.map_append, List.map_replicate]
      rfl
    simp [-oMul_list, -oAdd_list, ex, a]
    exact ⟨13 + k, by omega, x, hx, hF2.up (by omega), rfl⟩) ?_
  rintro _ g ⟨k, x, hk, hx, hF2, rfl⟩
  obtain ⟨ws, ew⟩ : ∃ ws, ws = List.replicate k (Str.ofString "0") ++ [x, Str.ofString ";"] := ⟨_, rfl⟩
  have hw : ∀ w ∈ ws, wd w := by
    rw [ew]
    refine wd_app (wd_rep z0) fun w hw => ?_
    rcases List.mem_cons.mp hw with rfl | hw
    · exact hx
    · rw [List.mem_singleton.mp hw]
      exact zs
  have lw : ws.length ≤ 43 := by
    rw [ew, List.length_append, List.length_replicate]
    show k + 2 ≤ 43
    omega
  rw [← ew]
  clear ew
  refine ev_step (fun ρ g2 => g2 = g ∧ ρ = [.feed, .dat (.list (ws.map .str)), .emp]) (by
    generalize ws.map PyData.str = W at *
    simp) ?_
  rintro _ g ⟨rfl, rfl⟩
  refine ev_step (fun ρ g => ∃ s, Ty 45 1000 s ∧ Fd (t + 3) g ∧ ρ = [.feed, .dat (.list (ws.map .str)), .dat (.str s)]) (by
    have wl : (ws.map PyData.str).length = ws.length := List.length_map ..
    have fo : ∀ y, wd y → oAdd (.list (ws.map .str)) (.list [.str y]) = some (.own ((ws ++ [y]).map .str)) ∧ oJoin (.str (Str.ofString " ")) (.list ((ws ++ [y]).map .str)) = some (.dat (.str (Txt.join sp (ws ++ [y])))) ∧ Ty 45 1000 (Txt.join sp (ws ++ [y])) := fun y hy => by
      have ha := wd_app hw (fun w hw => by rw [List.mem_singleton.mp hw]; exact hy) (B := [y])
      have hl : (ws ++ [y]).length ≤ 44 := by rw [List.length_append]; show ws.length + 1 ≤ 44; omega
      refine ⟨?_, join_wdO ha hl (by decide), (join_wd ha hl).1.up (by decide) (by decide)⟩
      rw [oAdd_list, if_pos (by rw [wl]; show ws.length + 1 ≤ 100000; omega), List.map_append]
      rfl
    generalize PyData.list (ws.map .str) = W at *
    simp [-oAdd_list]
    refine Ev.drawn (draw_v3_ok (by decide) (by decide) hF2 (by omega)) fun d g d0 d1 hF3 => ?_
    obtain ⟨y, ey, hy⟩ := cb d d0 d1
    obtain ⟨k1, k2, ty⟩ := fo y hy
    generalize (ws ++ [y]).map PyData.str = V at *
    generalize Txt.join sp (ws ++ [y]) = J at *
    simp [-oAdd_list, ey, k1, k2]
    exact ⟨ty, hF3.up (by omega)⟩) ?_
  rintro _ g ⟨s, ty, hF3, rfl⟩
  obtain ⟨_, g1, e1, z1, rfl, ty1, hF4⟩ := worded_w ty (by decide) hF3 (by omega)
  obtain ⟨_, g2, e2, z2, rfl, ty2, hF5⟩ := worded_w ty (by decide) hF4 (by omega)
  have Z : ∃ zs : List Str, RV.own [.str s, .str z1, .str z2, .str s] = .own (zs.map .str) ∧ zs.length = 4 ∧ ∀ z ∈ zs, Ty 150 80000 z := ⟨[s, z1, z2, s], rfl, rfl, fun z hz => by
    simp only [List.mem_cons, List.not_mem_nil, or_false] at hz
    rcases hz with rfl | rfl | rfl | rfl
    · exact ty.up (by decide) (by decide)
    · exact ty1.up (by decide) (by decide)
    · exact ty2.up (by decide) (by decide)
    · exact ty.up (by decide) (by decide)⟩
  generalize PyData.list (ws.map .str) = W at *
  simp [e1, e2]
  simpa using Z
end
/-- the constants -/
def c14 : List String := ["", " ", "-", "- ", "- -", "- 1/2", "- ; 1/2", "-;", ";", "; 1/2", "1/2 -", "1/2 ;", "1/2 ; ", "1/2 ; 0"]
def c7 : List String := ["1/2 ; 1", "1/2 ; 1/2", "1/2 ; 2/3", "1/2 ; 1/2 1", "1/2 ; 1/2 ;", "1/2 1/2 ; 1/9", "0 ; 1/9"]
def c9 : List String := ["1/2 0 ; 1/2", "1 0 0 0", "1/2 1/3 1/5", "1/2 1/3 1/6 0", "0", "1", "0 0", "2/2", "1/2  1/3"]
def kTxt : List Str := (c14 ++ c7 ++ c9).map Str.ofString
theorem const_ty (x : String) (h : decide ((Str.ofString x).length ≤ 100) = true) : Ty 150 80000 (Str.ofString x) := by
  have h := of_decide_eq_true h
  have := nw_len (Str.ofString x)
  exact ⟨⟨sokk_of x, by omega⟩, by omega⟩
theorem kTxt_ok : ∀ s ∈ kTxt, Ty 150 80000 s := fun s hs => by
  obtain ⟨x, hx, rfl⟩ := List.mem_map.mp hs
  exact const_ty x (List.all_eq_true.mp (show ((c14 ++ c7 ++ c9).all fun x => decide ((Str.ofString x).length ≤ 100)) = true by decide +kernel) x hx)
theorem txt_w {L : Life} (h : WrOk L) (hl : L.row.length ≤ 6) : Ty 10 800 (txt L) := by
  have e := split_txt L
  have n : (wordsL L).length ≤ 8 := by
    unfold wordsL rowT stepT
    rw [List.length_append]
    split <;> split <;> simp <;> omega
  have s := sum_len (word_len h)
  have t : Ty 10 800 (Txt.join sp (wordsL L)) := join_any (fun w hw => ⟨sokk_word w hw, words_free L w hw⟩) (by omega) (by omega)
  exact t
end Fp
namespace Fp
open PySem PySem.Spec L2 Dn
def resLPD : Sum Nat Life → PyData
  | .inl a => .int (a : Nat)
  | .inr L => .list [lifeD L]
/-- a life of short chances -/
structure LfF (L : Life) : Prop where
  row : RowF L.row
  s0 : 0 ≤ L.step
  s1 : L.step ≤ 1
  sd : L.step.den < 1000
theorem stepR_ok {vs : List Rat} {i : Nat} : ∀ {ws : List Str} {r : Sum Nat Life}, RowF vs → stepR vs i ws = r → (∃ L, r = .inr L ∧ LfF L) ∨ ∃ a, r = .inl a ∧ a ≤ i + 2
  | [], r, hr, h => by
    have h : Sum.inl (i + 1) = r := h
    exact .inr ⟨_, h.symm, by omega⟩
  | s :: rest, r, hr, h => by
    have h : (match chW s with
      | none => Sum.inl (i + 1)
      | some q => if q = 0 ∨ q = 1 ∨ 1 < wholeV vs q then .inl (i + 1) else if rest = [] then .inr ⟨vs, q⟩ else .inl (i + 2)) = r := h
    cases hc : chW s with
    | none =>
      rw [hc] at h
      have h : Sum.inl (i + 1) = r := h
      exact .inr ⟨_, h.symm, by omega⟩
    | some q =>
      rw [hc] at h
      obtain ⟨q0, q1, qd⟩ := chW_ok hc
      have h : (if q = 0 ∨ q = 1 ∨ 1 < wholeV vs q then Sum.inl (i + 1) else if rest = [] then .inr ⟨vs, q⟩ else .inl (i + 2)) = r := h
      by_cases c1 : q = 0 ∨ q = 1 ∨ 1 < wholeV vs q
      · rw [if_pos c1] at h
        exact .inr ⟨_, h.symm, by omega⟩
      · rw [if_neg c1] at h
        by_cases c2 : rest = []
        · rw [if_pos c2] at h
          exact .inl ⟨_, h.symm, hr, q0, q1, qd⟩
        · rw [if_neg c2] at h
          exact .inr ⟨_, h.symm, by omega⟩
theorem readR_ok : ∀ {ws : List Str} {vs : List Rat} {i : Nat} {r : Sum Nat Life}, RowF vs → vs.length + ws.length ≤ 160 → readR ws vs i = r → (∃ L, r = .inr L ∧ LfF L) ∨ ∃ a, r = .inl a ∧ a ≤ i + ws.length + 2
  | [], vs, i, r, hr, _, h => by
    have h : Sum.inr ⟨vs, 0⟩ = r := h
    exact .inl ⟨_, h.symm, hr, Rat.le_refl, (show (0 : Rat) ≤ 1 by decide), (show (0 : Rat).den < 1000 by decide)⟩
  | w :: ws, vs, i, r, hr, hl, h => by
    have h : (if w = Str.ofString ";" ∧ 0 < i then stepR vs i ws else match chW w with
      | none => .inl i
      | some q => if 1 < vs.sum + q then .inl i else readR ws (vs ++ [q]) (i + 1)) = r := h
    rw [List.length_cons] at hl ⊢
    by_cases c : w = Str.ofString ";" ∧ 0 < i
    · rw [if_pos c] at h
      rcases stepR_ok hr h with z | ⟨a, e, ha⟩
      · exact .inl z
      · exact .inr ⟨a, e, by omega⟩
    · rw [if_neg c] at h
      cases hc : chW w with
      | none =>
        rw [hc] at h
        have h : Sum.inl i = r := h
        exact .inr ⟨_, h.symm, by omega⟩
      | some q =>
        rw [hc] at h
        obtain ⟨q0, q1, qd⟩ := chW_ok hc
        have h : (if 1 < vs.sum + q then Sum.inl i else readR ws (vs ++ [q]) (i + 1)) = r := h
        by_cases c1 : 1 < vs.sum + q
        · rw [if_pos c1] at h
          exact .inr ⟨_, h.symm, by omega⟩
        · rw [if_neg c1] at h
          rcases readR_ok (hr.more (by omega) q0 q1 qd) (by rw [List.length_append]; show vs.length + 1 + ws.length ≤ 160; omega) h with z | ⟨a, e, ha⟩
          · exact .inl z
          · exact .inr ⟨a, e, by omega⟩
theorem textR_ok {ws : List Str} (hl : ws.length ≤ 150) : (∃ L, textR ws = .inr L ∧ LfF L) ∨ ∃ a, textR ws = .inl a ∧ a ≤ 200 := by
  cases ws with
  | nil => exact .inl ⟨_, rfl, RowF.nil, Rat.le_refl, by decide, by decide⟩
  | cons w r =>
    have e : textR (w :: r) = if w = Str.ofString "-" then (if r = [] then .inr ⟨[], 0⟩ else .inl 1) else readR (w :: r) [] 0 := rfl
    rw [e]
    by_cases c : w = Str.ofString "-"
    · rw [if_pos c]
      by_cases c2 : r = []
      · rw [if_pos c2]
        exact .inl ⟨_, rfl, RowF.nil, Rat.le_refl, by decide, by decide⟩
      · rw [if_neg c2]
        exact .inr ⟨_, rfl, by decide⟩
    · rw [if_neg c]
      rcases readR_ok RowF.nil (by show 0 + (w :: r).length ≤ 160; omega) rfl (ws := w :: r) (i := 0) with z | ⟨a, e, ha⟩
      · exact .inl z
      · exact .inr ⟨a, e, by omega⟩
theorem nice_lf {L : Life} (h : LfF L) : Nice 600 3 (lifeD L) := by
  have a := nice_tuple (niceL_of (b := 2) (k := 1) (ds := L.row.map enc) fun d hd => by
    obtain ⟨x, hx, rfl⟩ := List.mem_map.mp hd
    exact nice_enc ((sz_chance (h.row.c x hx).1 (h.row.c x hx).2 (h.row.d x hx)).up (show 10 ≤ 1850 by decide)) (Nat.le_refl _))
  have a := a.up (c := 580) (l := 2) (by rw [List.length_map]; have := h.row.len; omega) (by decide)
  have b := (nice_enc ((sz_chance h.s0 h.s1 h.sd).up (show 10 ≤ 1850 by decide)) (Nat.le_refl _)).up (show 2 ≤ 10 by decide) (show 1 ≤ 2 by decide)
  exact (nice_tuple (niceL_cons a (niceL_cons b (niceL_nil (k := 2))))).up (by decide) (by decide)
theorem shows_resL {s : Str} (h : TxW s) : Dn.shows (resLPD (textR (Txt.split s sp))) = true := by
  rcases textR_ok h.words with ⟨L, e, hf⟩ | ⟨a, e, ha⟩
  · rw [e]
    exact (nice_list (niceL_cons (nice_lf hf) (niceL_nil (k := 3)))).shows (by decide) (by decide)
  · rw [e]
    exact (nice_int (i := (a : Nat)) (by rw [Int.natAbs_natCast]; exact Nat.lt_trans (show a < 1000 by omega) (by decide))).shows (by decide) (by decide)
theorem noStr_resL (r : Sum Nat Life) : noStr (resLPD r) = true := by
  cases r with
  | inl p => rfl
  | inr L =>
    have := noStr_life L
    simp [resLPD, noStr, noStrs, this]
section
variable {f : Feed} {n M : Nat} {s : Str} {t : Int} {ρ : Rho} {x : Nat}
/-- a word or a sign otherwise, drawn -/
theorem pick_w (h : Ty n M s) (hM : M ≤ 6000) (hF : Fd t f) (ht : t < 2 ^ 29) (h1 : ρ[1]? = some .feed) (hx : ρ[x]? = some (.dat (.str s))) : Ev (cPick F_q_worded F_q_signed (cCall F_q_draw_v3 [cVar 1, cC (.int 2)]) [cVar 1, cVar x] ρ f) fun rv g => ∃ z, rv = .dat (.str z) ∧ Ty (3 * n + 3) (6 * M + 50) z ∧ Fd (t + 4) g := by
  unfold cPick
  simp [h1]
  refine Ev.drawn (draw_v3_ok (by decide) (by decide) hF (by omega)) fun a g a0 a2 hF1 => ?_
  obtain rfl | rfl : a = 0 ∨ a = 1 := by omega
  · obtain ⟨_, g1, e1, z, rfl, tz, hF2⟩ := worded_w h (by omega) hF1 (by omega)
    have Z : ∃ z', RV.dat (.str z) = .dat (.str z') ∧ Ty (3 * n + 3) (6 * M + 50) z' ∧ Fd (t + 4) g1 := ⟨z, rfl, tz, hF2.up (by omega)⟩
    simp [h1, hx, e1]
    simpa using Z
  · obtain ⟨_, g1, e1, z, rfl, tz, hF2⟩ := signed_w h (by omega) hF1 (by omega)
    have Z : ∃ z', RV.dat (.str z) = .dat (.str z') ∧ Ty (3 * n + 3) (6 * M + 50) z' ∧ Fd (t + 4) g1 := ⟨z, rfl, tz.up (Nat.le_refl _) (by omega), hF2.up (by omega)⟩
    simp [h1, hx, e1]
    simpa using Z
end
theorem rep_map (k : Nat) (w : Str) : List.replicate k (PyData.str w) = (List.replicate k w).map .str := by rw [List.map_replicate]
end Fp
namespace Lfreshparts_k71_texts_that_write_no_life
open PySem PySem.Spec L2 Dn Fp
/-- law, behind its first row; slots: 0 _law_script, 1 _law_feed_here, 2 _law_texts, 3 _law_k, 4 _law_good, 5 _law_turn, 6 _law_bent, 7 _law_words, 8 _law_text, 9 _law_due -/
noncomputable def S_law : Sm := sSeq (sSet 2 (cLst [cC (.str ""), cC (.str " "), cC (.str "-"), cC (.str "- "), cC (.str "- -"), cC (.str "- 1/2"), cC (.str "- ; 1/2"), cC (.str "-;"), cC (.str ";"), cC (.str "; 1/2"), cC (.str "1/2 -"), cC (.str "1/2 ;"), cC (.str "1/2 ; "), cC (.str "1/2 ; 0")])) (sSeq (sFrz 2) (sSeq (sSet 2 (cBin oAdd (cVar 2) (cLst [cC (.str "1/2 ; 1"), cC (.str "1/2 ; 1/2"), cC (.str "1/2 ; 2/3"), cC (.str "1/2 ; 1/2 1"), cC (.str "1/2 ; 1/2 ;"), cC (.str "1/2 1/2 ; 1/9"), cC (.str "0 ; 1/9")]))) (sSeq (sFrz 2) (sSeq (sSet 2 (cBin oAdd (cVar 2) (cLst [cC (.str "1/2 0 ; 1/2"), cC (.str "1 0 0 0"), cC (.str "1/2 1/3 1/5"), cC (.str "1/2 1/3 1/6 0"), cC (.str "0"), cC (.str "1"), cC (.str "0 0"), cC (.str "2/2"), cC (.str "1/2  1/3")]))) (sSeq (sFrz 2) (sSeq (sFor (iRange1 (cC (.int 7))) (.one 3) (sSeq (sSet 4 (cCall F_q_life_text [cCall F_q_life_v2 [cVar 1]])) (sSeq (sFor (iRange1 (cC (.int 8))) (.one 5) (sSeq (sSet 6 (cPick F_q_worded F_q_signed (cCall F_q_draw_v3 [cVar 1, cC (.int 2)]) [cVar 1, cVar 4])) (sSeq (sIf (cT (cBin oEq (cBin oMod (cVar 5) (cC (.int 3))) (cC (.int 2)))) (sSet 6 (cPick F_q_worded F_q_signed (cCall F_q_draw_v3 [cVar 1, cC (.int 2)]) [cVar 1, cVar 6])) (sNext)) (sSeq (sSet 2 (cBin oAdd (cVar 2) (cLst [cVar 6, cVar 4]))) (sSeq (sFrz 2) (sNext)))))) (sSeq (sFrz 2) (sNext))))) (sSeq (sFrz 2) (sSeq (sSet 7 (cBin oAdd (cBin oMul (cLst [cC (.str "0")]) (cC (.int 99))) (cLst [cC (.str "1")]))) (sSeq (sPut 7 (cCall F_q_draw_v3 [cVar 1, cC (.int 100)]) (cBin oIx (cLst [cC (.str "2/4"), cC (.str "1/100"), cC (.str "-"), cC (.str ";")]) (cCall F_q_draw_v3 [cVar 1, cC (.int 4)]))) (sSeq (sFrz 7) (sSeq (sSet 2 (cBin oAdd (cVar 2) (cLst [cMetS oJoin (cC (.str " ")) (cBin oAdd (cBin oMul (cLst [cC (.str "0")]) (cC (.int 99))) (cLst [cC (.str "1")])), cMetS oJoin (cC (.str " ")) (cBin oMul (cLst [cC (.str "1/100")]) (cC (.int 100))), cMetS oJoin (cC (.str " ")) (cVar 7), cBin oAdd (cBin oAdd (cC (.str "1")) (cBin oMulS (cC (.str " 0")) (cC (.int 11)))) (cC (.str " 1"))]))) (sSeq (sApp 2 (cMetS oJoin (cC (.str " ")) (cBin oMul (cLst [cC (.str "1/99")]) (cC (.int 100))))) (sSeq (sFrz 2) (sSeq (sFor (iSeq (cBin oAdd (cVar 2) (cLater F_q_wide_texts 0 []))) (.one 8) (sSeq (sSet 9 (cUn oRepr (cCall F_q_read_life [cVar 8]))) (sIf (cT (cBin oNe (cLc (iRange1 (cC (.int 2))) (.one 5) (cYes) (cUn oRepr (cCall F_q_told_v6 [cVar 8])) [5]) (cLst [cVar 9, cVar 9]))) (sRet (cC (.bool false))) (sNext)))) (sRet (cC (.bool true)))))))))))))))))
theorem fin : ∀ ns : List Int, ns.length ≤ 63 → ∃ f, S_law (.scr ns :: .feed :: List.replicate 8 .emp) (feed0 ns) = .ok (.rt (.dat (.bool true))) f := by
  intro ns hns
  suffices h : Ev (S_law (.scr ns :: .feed :: List.replicate 8 .emp) (feed0 ns)) (fun c _ => c = .rt (.dat (.bool true))) by
    obtain ⟨c, f, e, rfl⟩ := h
    exact ⟨f, e⟩
  unfold S_law
  rw [show (Slot.scr ns :: Slot.feed :: List.replicate 8 Slot.emp) = [.scr ns, .feed, .emp, .emp, .emp, .emp, .emp, .emp, .emp, .emp] from rfl]
  have hF0 := fd0 ns
  refine ev_step (fun ρ g => g = feed0 ns ∧ ρ = [.scr ns, .feed, .own ((c14.map Str.ofString).map .str), .emp, .emp, .emp, .emp, .emp, .emp, .emp]) (by
    simp [c14]) ?_
  rintro _ g ⟨rfl, rfl⟩
  refine ev_step (fun ρ g => g = feed0 ns ∧ ρ = [.scr ns, .feed, .dat (.list ((c14.map Str.ofString).map .str)), .emp, .emp, .emp, .emp, .emp, .emp, .emp]) (by
    generalize (c14.map Str.ofString).map PyData.str = A at *
    simp) ?_
  rintro _ g ⟨rfl, rfl⟩
  refine ev_step (fun ρ g => g = feed0 ns ∧ ρ = [.scr ns, .feed, .own (((c14 ++ c7).map Str.ofString).map .str), .emp, .emp, .emp, .emp, .emp, .emp, .emp]) (by
    have l8 : ((c14.map Str.ofString).map PyData.str).length = 14 := rfl
    have e : ((c14 ++ c7).map Str.ofString).map PyData.str = (c14.map Str.ofString).map PyData.str ++ (c7.map Str.ofString).map PyData.str := by rw [List.map_append, List.map_append]
    rw [e]
    generalize (c14.map Str.ofString).map PyData.str = A at *
    simp [l8, c7]) ?_
  rintro _ g ⟨rfl, rfl⟩
  refine ev_step (fun ρ g => g = feed0 ns ∧ ρ = [.scr ns, .feed, .dat (.list (((c14 ++ c7).map Str.ofString).map .str)), .emp, .emp, .emp, .emp, .emp, .emp, .emp]) (by
    generalize ((c14 ++ c7).map Str.ofString).map PyData.str = A at *
    simp) ?_
  rintro _ g ⟨rfl, rfl⟩
  refine ev_step (fun ρ g => g = feed0 ns ∧ ρ = [.scr ns, .feed, .own (kTxt.map .str), .emp, .emp, .emp, .emp, .emp, .emp, .emp]) (by
    have l8 : (((c14 ++ c7).map Str.ofString).map PyData.str).length = 21 := rfl
    have e : kTxt.map PyData.str = ((c14 ++ c7).map Str.ofString).map PyData.str ++ (c9.map Str.ofString).map PyData.str := by
      unfold kTxt
      rw [List.map_append (l₁ := c14 ++ c7), List.map_append (f := PyData.str)]
    rw [e]
    generalize ((c14 ++ c7).map Str.ofString).map PyData.str = A at *
    simp [l8, c9]) ?_
  rintro _ g ⟨rfl, rfl⟩
  refine ev_step (fun ρ g => g = feed0 ns ∧ ρ = [.scr ns, .feed, .dat (.list (kTxt.map .str)), .emp, .emp, .emp, .emp, .emp, .emp, .emp]) (by
    generalize kTxt.map PyData.str = A at *
    simp) ?_
  rintro _ g ⟨rfl, rfl⟩
  refine ev_stq (fun ρ g => ∃ Ts : List Str, Ts.length ≤ 150 ∧ (∀ s ∈ Ts, Ty 150 80000 s) ∧ Fd 3000 g ∧ ∃ s3 s4 s5 s6 : Slot, ρ = [.scr ns, .feed, .dat (.list (Ts.map .str)), s3, s4, s5, s6, .emp, .emp, .emp]) ?_ ?_
  · intro Q' hQ
    have it : ∀ s2 : Slot, iRange1 (cC (.int 7)) [.scr ns, .feed, s2, .emp, .emp, .emp, .emp, .emp, .emp, .emp] (feed0 ns) = .ok (rangeD 0 7) (feed0 ns) := fun s2 => by simp [smallI_ok (n := 7) (by decide) (by decide)]
    rw [e_for, it, ev_bind]
    refine Ev.of rfl ?_
    refine ev_for (I := fun i ρ g => ∃ Ts : List Str, Ts.length = 30 + 16 * i ∧ (∀ s ∈ Ts, Ty 150 80000 s) ∧ Fd (200 * i) g ∧ ∃ s3 s4 s5 s6 : Slot, ρ = [.scr ns, .feed, .dat (.list (Ts.map .str)), s3, s4, s5, s6, .emp, .emp, .emp]) ⟨kTxt, rfl, kTxt_ok, hF0.up (by decide), _, _, _, _, rfl⟩ ?_ ?_
    · rintro i d ρ g hd ⟨Ts, hl, hL, hG, s3, s4, s5, s6, rfl⟩
      obtain ⟨rfl, hi⟩ := range_at hd
      refine ⟨_, rfl, ?_⟩
      simp only [List.set_cons_succ, List.set_cons_zero]
      generalize Slot.dat (.int (0 + (i : Nat))) = s3 at *
      refine Ev.mono (P := fun c g => ∃ ρ, c = .nx ρ ∧ ∃ Ts : List Str, Ts.length = 30 + 16 * (i + 1) ∧ (∀ s ∈ Ts, Ty 150 80000 s) ∧ Fd (200 * ((i + 1 : Nat) : Int)) g ∧ ∃ s3 s4 s5 s6 : Slot, ρ = [.scr ns, .feed, .dat (.list (Ts.map .str)), s3, s4, s5, s6, .emp, .emp, .emp]) ?_ (fun c g ⟨ρ, e, h⟩ => by subst e; exact h)
      refine ev_step (fun ρ g => ∃ L : Fp.Life, WrOk L ∧ L.row.length ≤ 6 ∧ Fd (200 * i + 30) g ∧ ρ = [.scr ns, .feed, .dat (.list (Ts.map .str)), s3, .dat (.str (txt L)), s5, s6, .emp, .emp, .emp]) (by
        obtain ⟨_, g1, e1, L, W, s, rfl, ok, W1, s1, l6, hG2⟩ := life70_ok hG (by omega) (by omega)
        have wr := (ok.good (by omega) (by omega) (by omega)).wr
        have e2 := q_life_text_q (f := g1) wr
        have Z : ∃ L' : Fp.Life, WrOk L' ∧ L'.row.length ≤ 6 ∧ Fd (200 * i + 30) g1 ∧ txt L = txt L' := ⟨L, wr, l6, hG2.up (by omega), rfl⟩
        generalize txt L = X at *
        generalize lifeD L = D at *
        generalize PyData.list (Ts.map .str) = A at *
        simp [e1, e2]
        simpa using Z) ?_
      rintro _ g ⟨L, wr, l6, hG1, rfl⟩
      have tG := txt_w wr l6
      generalize txt L = good at *
      refine ev_stq (fun ρ g => ∃ Ts2 : List Str, Ts2.length = 30 + 16 * i + 16 ∧ (∀ s ∈ Ts2, Ty 150 80000 s) ∧ Fd (200 * i + 200) g ∧ ∃ s5 s6 : Slot, ρ = [.scr ns, .feed, .dat (.list (Ts2.map .str)), s3, .dat (.str good), s5, s6, .emp, .emp, .emp]) ?_ ?_
      · intro Q2 hQ2
        have it2 : ∀ s2 s4 : Slot, iRange1 (cC (.int 8)) [.scr ns, .feed, s2, s3, s4, s5, s6, .emp, .emp, .emp] g = .ok (rangeD 0 8) g := fun s2 s4 => by simp [smallI_ok (n := 8) (by decide) (by decide)]
        rw [e_for, it2, ev_bind]
        refine Ev.of rfl ?_
        refine ev_for (I := fun j ρ g => ∃ Ts2 : List Str, Ts2.length = 30 + 16 * i + 2 * j ∧ (∀ s ∈ Ts2, Ty 150 80000 s) ∧ Fd (200 * i + 30 + 10 * j) g ∧ ∃ s5 s6 : Slot, ρ = [.scr ns, .feed, .dat (.list (Ts2.map .str)), s3, .dat (.str good), s5, s6, .emp, .emp, .emp]) ⟨Ts, by omega, hL, hG1.up (by omega), _, _, rfl⟩ ?_ ?_
        · rintro j d ρ g hd ⟨Ts2, hl2, hL2, hG2, s5, s6, rfl⟩
          obtain ⟨rfl, hj⟩ := range_at hd
          refine ⟨_, rfl, ?_⟩
          simp only [List.set_cons_succ, List.set_cons_zero]
          obtain ⟨_, g1, e1, z, rfl, tz, hG3⟩ := pick_w (ρ := [.scr ns, .feed, .dat (.list (Ts2.map .str)), s3, .dat (.str good), .dat (.int (0 + (j : Nat))), s6, .emp, .emp, .emp]) (x := 4) tG (by decide) hG2 (by omega) rfl rfl
          refine Ev.mono (P := fun c g => ∃ ρ, c = .nx ρ ∧ ∃ Ts3 : List Str, Ts3.length = 30 + 16 * i + 2 * (j + 1) ∧ (∀ s ∈ Ts3, Ty 150 80000 s) ∧ Fd (200 * i + 30 + 10 * ((j + 1 : Nat) : Int)) g ∧ ∃ s5 s6 : Slot, ρ = [.scr ns, .feed, .dat (.list (Ts3.map .str)), s3, .dat (.str good), s5, s6, .emp, .emp, .emp]) ?_ (fun c g ⟨ρ, e, h⟩ => by subst e; exact h)
          refine ev_step (fun ρ g => g = g1 ∧ ρ = [.scr ns, .feed, .dat (.list (Ts2.map .str)), s3, .dat (.str good), .dat (.int (0 + (j : Nat))), .dat (.str z), .emp, .emp, .emp]) (by
            generalize PyData.list (Ts2.map .str) = A at *
            rw [e_set, e1]
            simp) ?_
          rintro _ g1 ⟨rfl, rfl⟩
          refine ev_stq (fun ρ g => ∃ z, Ty 150 80000 z ∧ Fd (200 * i + 30 + 10 * j + 8) g ∧ ρ = [.scr ns, .feed, .dat (.list (Ts2.map .str)), s3, .dat (.str good), .dat (.int (0 + (j : Nat))), .dat (.str z), .emp, .emp, .emp]) ?_ ?_
          · intro Q3 hQ3
            have same := hQ3 [.scr ns, .feed, .dat (.list (Ts2.map .str)), s3, .dat (.str good), .dat (.int (0 + (j : Nat))), .dat (.str z), .emp, .emp, .emp] g1 ⟨z, tz.up (by decide) (by decide), hG3.up (by omega), rfl⟩
            obtain ⟨m, em⟩ : ∃ m : Int, oMod (.int (0 + (j : Nat))) (.int 3) = some (.dat (.int m)) := by
              obtain rfl | rfl | rfl | rfl | rfl | rfl | rfl | rfl : j = 0 ∨ j = 1 ∨ j = 2 ∨ j = 3 ∨ j = 4 ∨ j = 5 ∨ j = 6 ∨ j = 7 := by omega
              all_goals exact ⟨_, rfl⟩
            by_cases c2 : m = 2
            · obtain ⟨_, g4, e4, z2, rfl, tz2, hG4⟩ := pick_w (ρ := [.scr ns, .feed, .dat (.list (Ts2.map .str)), s3, .dat (.str good), .dat (.int (0 + (j : Nat))), .dat (.str z), .emp, .emp, .emp]) (x := 6) tz (by decide) hG3 (by omega) rfl rfl
              have same2 := hQ3 [.scr ns, .feed, .dat (.list (Ts2.map .str)), s3, .dat (.str good), .dat (.int (0 + (j : Nat))), .dat (.str z2), .emp, .emp, .emp] g4 ⟨z2, tz2.up (by decide) (by decide), hG4.up (by omega), rfl⟩
              clear same e1
              have e5 : sSet 6 (cPick F_q_worded F_q_signed (cCall F_q_draw_v3 [cVar 1, cC (.int 2)]) [cVar 1, cVar 6]) [.scr ns, .feed, .dat (.list (Ts2.map .str)), s3, .dat (.str good), .dat (.int (0 + (j : Nat))), .dat (.str z), .emp, .emp, .emp] g1 = .ok (.nx [.scr ns, .feed, .dat (.list (Ts2.map .str)), s3, .dat (.str good), .dat (.int (0 + (j : Nat))), .dat (.str z2), .emp, .emp, .emp]) g4 := by
                generalize PyData.list (Ts2.map .str) = A at *
                rw [e_set, e4]
                simp
              generalize sSet 6 (cPick F_q_worded F_q_signed (cCall F_q_draw_v3 [cVar 1, cC (.int 2)]) [cVar 1, cVar 6]) = PK at *
              generalize PyData.int (0 + (j : Nat)) = J at *
              generalize PyData.list (Ts2.map .str) = A at *
              simp [em, c2, e5]
              exact same2
            · clear e1
              generalize sSet 6 (cPick F_q_worded F_q_signed (cCall F_q_draw_v3 [cVar 1, cC (.int 2)]) [cVar 1, cVar 6]) = PK at *
              generalize PyData.int (0 + (j : Nat)) = J at *
              generalize PyData.list (Ts2.map .str) = A at *
              simp [em, c2]
              exact same
          clear e1 hG3
          rintro _ g ⟨z2, tz2, hG3, rfl⟩
          have lA : (Ts2.map PyData.str).length = 30 + 16 * i + 2 * j := by rw [List.length_map, hl2]
          have Z : ∃ Ts3 : List Str, Ts3.length = 30 + 16 * i + 2 * (j + 1) ∧ (∀ s ∈ Ts3, Ty 150 80000 s) ∧ Fd (200 * i + 30 + 10 * ((j + 1 : Nat) : Int)) g ∧ ∃ s5 s6 : Slot, [Slot.scr ns, .feed, .dat (.list (Ts2.map .str ++ [.str z2, .str good])), s3, .dat (.str good), .dat (.int (0 + (j : Nat))), .dat (.str z2), .emp, .emp, .emp] = [.scr ns, .feed, .dat (.list (Ts3.map .str)), s3, .dat (.str good), s5, s6, .emp, .emp, .emp] := ⟨Ts2 ++ [z2, good], by rw [List.length_append, hl2]; rfl, fun x hx => by
            rcases List.mem_append.mp hx with hx | hx
            · exact hL2 x hx
            · rcases List.mem_cons.mp hx with rfl | hx
              · exact tz2
              · rw [List.mem_singleton.mp hx]
                exact tG.up (by decide) (by decide), hG3.up (by omega), _, _, by rw [List.map_append]; rfl⟩
          refine Ev.mono (P := fun c g2 => g2 = g ∧ c = .nx [Slot.scr ns, .feed, .dat (.list (Ts2.map .str ++ [.str z2, .str good])), s3, .dat (.str good), .dat (.int (0 + (j : Nat))), .dat (.str z2), .emp, .emp, .emp]) ?_ ?_
          · generalize PyData.int (0 + (j : Nat)) = J at *
            generalize Ts2.map PyData.str = A at *
            simp [lA, show 30 + 16 * i + 2 * j + 2 ≤ 100000 by omega]
          · rintro _ g2 ⟨rfl, rfl⟩
            exact ⟨_, rfl, Z⟩
        · rintro ρ g ⟨Ts2, hl2, hL2, hG2, s5, s6, rfl⟩
          rw [range_len] at hl2 hG2
          exact ⟨_, rfl, hQ2 _ _ ⟨Ts2, by omega, hL2, hG2.up (by omega), _, _, rfl⟩⟩
      rintro _ g ⟨Ts2, hl2, hL2, hG2, s5, s6, rfl⟩
      have Z : ∃ Ts3 : List Str, Ts3.length = 30 + 16 * (i + 1) ∧ (∀ s ∈ Ts3, Ty 150 80000 s) ∧ Fd (200 * ((i + 1 : Nat) : Int)) g ∧ ∃ t3 t4 t5 t6 : Slot, [Slot.scr ns, .feed, .dat (.list (Ts2.map .str)), s3, .dat (.str good), s5, s6, .emp, .emp, .emp] = [.scr ns, .feed, .dat (.list (Ts3.map .str)), t3, t4, t5, t6, .emp, .emp, .emp] := ⟨Ts2, by omega, hL2, hG2.up (by omega), _, _, _, _, rfl⟩
      refine Ev.mono (P := fun c g2 => g2 = g ∧ c = .nx [Slot.scr ns, .feed, .dat (.list (Ts2.map .str)), s3, .dat (.str good), s5, s6, .emp, .emp, .emp]) ?_ ?_
      · generalize Ts2.map PyData.str = A at *
        simp
      · rintro _ g2 ⟨rfl, rfl⟩
        exact ⟨_, rfl, Z⟩
    · rintro ρ g ⟨Ts, hl, hL, hG, s3, s4, s5, s6, rfl⟩
      rw [range_len] at hl hG
      exact ⟨_, rfl, hQ _ _ ⟨Ts, by omega, hL, hG.up (by omega), _, _, _, _, rfl⟩⟩
  rintro _ f ⟨Ts, hl, hL, hF1, s3, s4, s5, s6, rfl⟩
  refine ev_step (fun ρ g => g = f ∧ ρ = [.scr ns, .feed, .dat (.list (Ts.map .str)), s3, s4, s5, s6, .emp, .emp, .emp]) (by
    generalize Ts.map PyData.str = A at *
    simp) ?_
  rintro _ f ⟨rfl, rfl⟩
  have w0 : wd (Str.ofString "0") := wd_of "0" (by decide +kernel)
  have w1 : wd (Str.ofString "1") := wd_of "1" (by decide +kernel)
  have w100 : wd (Str.ofString "1/100") := wd_of "1/100" (by decide +kernel)
  have w99 : wd (Str.ofString "1/99") := wd_of "1/99" (by decide +kernel)
  obtain ⟨ws, ews⟩ : ∃ ws, ws = List.replicate 99 (Str.ofString "0") ++ [Str.ofString "1"] := ⟨_, rfl⟩
  have hws : ∀ w ∈ ws, wd w := by
    rw [ews]
    exact wd_app (wd_rep w0) fun w hw => by rw [List.mem_singleton.mp hw]; exact w1
  have lws : ws.length = 100 := by rw [ews, List.length_append, List.length_replicate]; rfl
  have r99 := rep_own (d := .str (Str.ofString "0")) (k := 99) (by decide)
  have r100 := rep_own (d := .str (Str.ofString "1/100")) (k := 100) (by decide)
  have r101 := rep_own (d := .str (Str.ofString "1/99")) (k := 100) (by decide)
  have a99 : oAdd (.list (List.replicate 99 (.str (Str.ofString "0")))) (.list [.str (Str.ofString "1")]) = some (.own (ws.map .str)) := by
    rw [oAdd_list, if_pos (by rw [List.length_replicate]; decide), ews, List.map_append, List.map_replicate]
    rfl
  have r99 : oMul (.list [.str (Str.ofString "0")]) (.int 99) = some (.own (List.replicate 99 (.str (Str.ofString "0")))) := r99
  have r100 : oMul (.list [.str (Str.ofString "1/100")]) (.int 100) = some (.own (List.replicate 100 (.str (Str.ofString "1/100")))) := r100
  have r101 : oMul (.list [.str (Str.ofString "1/99")]) (.int 100) = some (.own (List.replicate 100 (.str (Str.ofString "1/99")))) := r101
  clear ews
  rw [rep_map] at r100 r101
  generalize List.replicate 99 (PyData.str (Str.ofString "0")) = R99 at *
  refine ev_step (fun ρ g => g = f ∧ ρ = [.scr ns, .feed, .dat (.list (Ts.map .str)), s3, s4, s5, s6, .own (ws.map .str), .emp, .emp]) (by
    generalize Ts.map PyData.str = A at *
    generalize ws.map PyData.str = B at *
    simp [-oMul_list, -oAdd_list, r99, a99]) ?_
  rintro _ f ⟨rfl, rfl⟩
  refine ev_step (fun ρ g => ∃ vs : List Str, (∀ w ∈ vs, wd w) ∧ vs.length = 100 ∧ Fd 3002 g ∧ ρ = [.scr ns, .feed, .dat (.list (Ts.map .str)), s3, s4, s5, s6, .own (vs.map .str), .emp, .emp]) (by
    have lB : (ws.map PyData.str).length = 100 := by rw [List.length_map, lws]
    have ca := fun i h0 h1 => const_wd ["2/4", "1/100", "-", ";"] (by decide +kernel) (i := i) h0 h1
    simp only [List.length_cons, List.length_nil, List.map_cons, List.map_nil] at ca
    have fo : ∀ (x : Str) (j : Nat), wd x → ∃ vs : List Str, (∀ w ∈ vs, wd w) ∧ vs.length = 100 ∧ (ws.map PyData.str).set j (.str x) = vs.map .str := fun x j hx => ⟨ws.set j x, wd_set hws hx j, by rw [List.length_set, lws], by rw [List.map_set]⟩
    have ix : ∀ i : Int, 0 ≤ i → i < 100 → ixN 100 i = some i.toNat := fun i h0 h1 => by
      unfold ixN
      rw [if_pos h0, if_pos (by omega)]
    generalize Ts.map PyData.str = A at *
    generalize ws.map PyData.str = B at *
    simp
    refine Ev.drawn (draw_v3_ok (by decide) (by decide) hF1 (by omega)) fun d g d0 d1 hF2 => ?_
    obtain ⟨x, ex, hx⟩ := ca d d0 d1
    simp [ex]
    refine Ev.drawn (draw_v3_ok (by decide) (by decide) hF2 (by omega)) fun d g d0 d1 hF3 => ?_
    obtain ⟨vs, h1, h2, h3⟩ := fo x d.toNat hx
    simp [lB, ix d d0 d1, h3]
    exact ⟨vs, h1, h2, hF3.up (by omega), rfl⟩) ?_
  rintro _ f ⟨vs, hvs, lvs, hF2, rfl⟩
  refine ev_step (fun ρ g => g = f ∧ ρ = [.scr ns, .feed, .dat (.list (Ts.map .str)), s3, s4, s5, s6, .dat (.list (vs.map .str)), .emp, .emp]) (by
    generalize Ts.map PyData.str = A at *
    generalize vs.map PyData.str = B at *
    simp) ?_
  rintro _ f ⟨rfl, rfl⟩
  have j1 := join_wdO hws (Nat.le_of_eq lws) (by decide)
  have j2 := join_wdO (wd_rep (k := 100) w100) (Nat.le_of_eq (List.length_replicate ..)) (by decide)
  have j3 := join_wdO hvs (Nat.le_of_eq lvs) (by decide)
  have j4 := join_wdO (wd_rep (k := 100) w99) (Nat.le_of_eq (List.length_replicate ..)) (by decide)
  have t1 := (join_wd hws (Nat.le_of_eq lws)).1.up (show 100 + 1 ≤ 150 by decide) (show 21 * 100 ≤ 80000 by decide)
  have t2 := (join_wd (wd_rep (k := 100) w100) (Nat.le_of_eq (List.length_replicate ..))).1.up (show 100 + 1 ≤ 150 by decide) (show 21 * 100 ≤ 80000 by decide)
  have t3 := (join_wd hvs (Nat.le_of_eq lvs)).1.up (show 100 + 1 ≤ 150 by decide) (show 21 * 100 ≤ 80000 by decide)
  have t4 := (join_wd (wd_rep (k := 100) w99) (Nat.le_of_eq (List.length_replicate ..))).1.up (show 100 + 1 ≤ 150 by decide) (show 21 * 100 ≤ 80000 by decide)
  obtain ⟨y, my, a5, a6, ty⟩ : ∃ y : Str, oMulS (.str (Str.ofString " 0")) (.int 11) = some (.dat (.str y)) ∧ oAdd (.str (Str.ofString "1")) (.str y) = some (.dat (.str (Str.ofString "1" ++ y))) ∧ oAdd (.str (Str.ofString "1" ++ y)) (.str (Str.ofString " 1")) = some (.dat (.str (Str.ofString "1" ++ y ++ Str.ofString " 1"))) ∧ Ty 150 80000 (Str.ofString "1" ++ y ++ Str.ofString " 1") := by
    have e : Txt.mul (Str.ofString " 0") 11 = Str.ofString " 0 0 0 0 0 0 0 0 0 0 0" := by decide +kernel
    have q : oMulS (.str (Str.ofString " 0")) (.int 11) = if (Str.ofString " 0").length ≤ 10 ∧ (0 : Int) ≤ 11 ∧ (11 : Int) ≤ 600 then some (.dat (.str (Txt.mul (Str.ofString " 0") 11))) else none := rfl
    have T1 : Ty 10 10 (Str.ofString "1") := ⟨⟨sokk_of _, by decide +kernel⟩, Nat.le_trans (nw_len _) (by decide +kernel)⟩
    have T2 : Ty 30 30 (Str.ofString " 0 0 0 0 0 0 0 0 0 0 0") := ⟨⟨sokk_of _, by decide +kernel⟩, Nat.le_trans (nw_len _) (by decide +kernel)⟩
    have T3 : Ty 10 10 (Str.ofString " 1") := ⟨⟨sokk_of _, by decide +kernel⟩, Nat.le_trans (nw_len _) (by decide +kernel)⟩
    refine ⟨_, by rw [q, if_pos ⟨by decide +kernel, by decide, by decide⟩, e], T1.tx.add T2.tx (by decide), (T1.app T2).tx.add T3.tx (by decide), ((T1.app T2).app T3).up (by decide) (by decide)⟩
  generalize Str.ofString "1" ++ y ++ Str.ofString " 1" = J4 at *
  generalize Str.ofString "1" ++ y = J0 at *
  generalize Txt.join sp ws = J1 at *
  generalize Txt.join sp (List.replicate 100 (Str.ofString "1/100")) = J2 at *
  generalize Txt.join sp vs = J3 at *
  generalize Txt.join sp (List.replicate 100 (Str.ofString "1/99")) = J5 at *
  generalize (List.replicate 100 (Str.ofString "1/100")).map PyData.str = R100 at *
  generalize (List.replicate 100 (Str.ofString "1/99")).map PyData.str = R101 at *
  have lT : (Ts.map PyData.str).length ≤ 150 := by rw [List.length_map]; exact hl
  have aT : oAdd (.list (Ts.map .str)) (.list [.str J1, .str J2, .str J3, .str J4]) = some (.own ((Ts ++ [J1, J2, J3, J4]).map .str)) := by
    rw [oAdd_list, if_pos (by simp; omega), List.map_append]
    rfl
  refine ev_step (fun ρ g => g = f ∧ ρ = [.scr ns, .feed, .own ((Ts ++ [J1, J2, J3, J4]).map .str), s3, s4, s5, s6, .dat (.list (vs.map .str)), .emp, .emp]) (by
    generalize (Ts ++ [J1, J2, J3, J4]).map PyData.str = A4 at *
    generalize Ts.map PyData.str = A at *
    generalize vs.map PyData.str = B at *
    generalize ws.map PyData.str = C at *
    simp [-oMul_list, -oAdd_list, -oAdd_str, r99, a99, j1, r100, j2, j3, my, a5, a6, aT]) ?_
  rintro _ f ⟨rfl, rfl⟩
  have lT4 : ((Ts ++ [J1, J2, J3, J4]).map PyData.str).length < 100000 := by rw [List.length_map, List.length_append]; show Ts.length + 4 < 100000; omega
  refine ev_step (fun ρ g => g = f ∧ ρ = [.scr ns, .feed, .own ((Ts ++ [J1, J2, J3, J4] ++ [J5]).map .str), s3, s4, s5, s6, .dat (.list (vs.map .str)), .emp, .emp]) (by
    rw [List.map_append (l₁ := Ts ++ [J1, J2, J3, J4])]
    generalize (Ts ++ [J1, J2, J3, J4]).map PyData.str = A4 at *
    generalize vs.map PyData.str = B at *
    simp [-oMul_list, -oAdd_list, -oAdd_str, r101, j4, lT4]) ?_
  rintro _ f ⟨rfl, rfl⟩
  have hA : ∀ s ∈ Ts ++ [J1, J2, J3, J4] ++ [J5], Ty 150 80000 s := fun s hs => by
    rcases List.mem_append.mp hs with hs | hs
    · rcases List.mem_append.mp hs with hs | hs
      · exact hL s hs
      · simp only [List.mem_cons, List.not_mem_nil, or_false] at hs
        rcases hs with rfl | rfl | rfl | rfl
        · exact t1
        · exact t2
        · exact t3
        · exact ty
    · rw [List.mem_singleton.mp hs]
      exact t4
  have lA : (Ts ++ [J1, J2, J3, J4] ++ [J5]).length ≤ 155 := by rw [List.length_append, List.length_append]; show Ts.length + 4 + 1 ≤ 155; omega
  generalize Ts ++ [J1, J2, J3, J4] ++ [J5] = Us at *
  refine ev_step (fun ρ g => g = f ∧ ρ = [.scr ns, .feed, .dat (.list (Us.map .str)), s3, s4, s5, s6, .dat (.list (vs.map .str)), .emp, .emp]) (by
    generalize Us.map PyData.str = A4 at *
    generalize vs.map PyData.str = B at *
    simp) ?_
  rintro _ f ⟨rfl, rfl⟩
  obtain ⟨rv, g1, e1, zs, rfl, lz, hz⟩ := wide_w (f := ⟨ns.reverse, 0, 0, 700⟩) (t := 700) ⟨show (0 : Int) ≤ 700 by decide, show (700 : Int) ≤ 700 by decide, show (0 : Int) ≤ 0 by decide, show (0 : Int) ≤ 700 by decide⟩ (by decide)
  generalize PyData.list (vs.map .str) = VS at *
  have lat : ∀ A : PyData, cLater F_q_wide_texts 0 [] [.scr ns, .feed, .dat A, s3, s4, s5, s6, .dat VS, .emp, .emp] f = .ok (.dat (.list (zs.map .str))) f := fun A => by
    rw [e_later (ns := ns) rfl hns]
    simp [isDatA, e1]
  have aU : oAdd (.list (Us.map .str)) (.list (zs.map .str)) = some (.own ((Us ++ zs).map .str)) := by
    rw [oAdd_list, if_pos (by rw [List.length_map, List.length_map]; omega), List.map_append]
  have all : ∀ s ∈ Us ++ zs, Ty 150 80000 s := fun s hs => (List.mem_append.mp hs).elim (hA s) (hz s)
  refine ev_stq (fun ρ g => ∃ ρ1, ρ = ρ1) ?_ ?_
  · intro Q' hQ
    have it : iSeq (cBin oAdd (cVar 2) (cLater F_q_wide_texts 0 [])) [.scr ns, .feed, .dat (.list (Us.map .str)), s3, s4, s5, s6, .dat VS, .emp, .emp] f = .ok ((Us ++ zs).map .str) f := by
      generalize (Us ++ zs).map PyData.str = B at *
      generalize Us.map PyData.str = A at *
      simp [-oAdd_list, lat, aU]
    rw [e_for, it, ev_bind]
    refine Ev.of rfl ?_
    generalize PyData.list (Us.map .str) = UD at *
    refine ev_for (I := fun j ρ g => ∃ s5 s8 s9 : Slot, ρ = [.scr ns, .feed, .dat UD, s3, s4, s5, s6, .dat VS, s8, s9]) ⟨_, _, _, rfl⟩ ?_ ?_
    · rintro j d ρ g hd ⟨s5, s8, s9, rfl⟩
      obtain ⟨hj, e⟩ := List.getElem?_eq_some_iff.mp hd
      obtain ⟨s, hm, rfl⟩ := List.mem_map.mp (e ▸ List.getElem_mem hj)
      refine ⟨_, rfl, ?_⟩
      have tw := (all s hm).txw (by decide) (by decide)
      have q1 := q_read_life_q (f := g) tw
      have q2 := fun g => told_life_q (f := g) tw
      have r := oRepr_of (shows_resL tw)
      have sk := sokk_shown _ (noStr_resL (textR (Txt.split s sp)))
      have n2 := ne_2str sk
      have rp : ∀ (F : Dn.Fn) (x : Nat) (ρ : Rho) (g : Feed), F [.dat (.str s)] g = .ok (resLV (textR (Txt.split s sp))) g → ρ[x]? = some (.dat (.str s)) → cUn oRepr (cCall F [cVar x]) ρ g = .ok (.dat (.str (resLPD (textR (Txt.split s sp))).shown)) g := fun F x ρ g hF hx => by
        cases hr : textR (Txt.split s sp) with
        | inl p =>
          rw [hr] at hF r
          have hF : F [.dat (.str s)] g = .ok (.dat (resLPD (.inl p))) g := hF
          generalize resLPD (.inl p) = D at *
          simp [hx, hF, r]
        | inr L =>
          rw [hr] at hF r
          have hF : F [.dat (.str s)] g = .ok (.own [lifeD L]) g := hF
          have eD : resLPD (.inr L) = .list [lifeD L] := rfl
          rw [eD] at r ⊢
          generalize lifeD L = D at *
          simp [hx, hF, r]
      refine ev_step (fun ρ g2 => g2 = g ∧ ρ = [.scr ns, .feed, .dat UD, s3, s4, s5, s6, .dat VS, .dat (.str s), .dat (.str (resLPD (textR (Txt.split s sp))).shown)]) (by
        have rp := rp F_q_read_life 8 [.scr ns, .feed, .dat UD, s3, s4, s5, s6, .dat VS, .dat (.str s), s9] g q1 rfl
        simp only [List.set_cons_succ, List.set_cons_zero]
        generalize (resLPD (textR (Txt.split s sp))).shown = t at *
        rw [e_set, rp]
        simp) ?_
      rintro _ g ⟨rfl, rfl⟩
      have lc : ∀ s5 : Slot, lcN (.one 5) cYes (cUn oRepr (cCall F_q_told_v6 [cVar 8])) [.scr ns, .feed, .dat UD, s3, s4, s5, s6, .dat VS, .dat (.str s), .dat (.str (resLPD (textR (Txt.split s sp))).shown)] (rangeD 0 2) [] g = .ok [.str (resLPD (textR (Txt.split s sp))).shown, .str (resLPD (textR (Txt.split s sp))).shown] g := fun s5 => by
        have := lc_map (T := .one 5) (e := cUn oRepr (cCall F_q_told_v6 [cVar 8])) (ρ := [.scr ns, .feed, .dat UD, s3, s4, s5, s6, .dat VS, .dat (.str s), .dat (.str (resLPD (textR (Txt.split s sp))).shown)]) (f := g) (xs := [(0 : Int), 1]) (enc := fun i => .int i) (g := fun _ => .str (resLPD (textR (Txt.split s sp))).shown) (by decide) (fun x _ => ⟨_, rfl, rp F_q_told_v6 8 _ g (q2 g) rfl⟩)
        exact this
      clear rp q1 q2 r hQ
      generalize (resLPD (textR (Txt.split s sp))).shown = t at *
      simp [lc, n2, smallI_ok (n := 2) (by decide) (by decide)]
    · rintro ρ g _
      exact ⟨_, rfl, hQ _ _ ⟨_, rfl⟩⟩
  · rintro _ f ⟨_, rfl⟩
    simp
section
set_option maxHeartbeats 4000000
def topS (i : Nat) : Stmt := PySem.Challenge.pw_freshparts_k71_texts_that_write_no_life.main.body.getD i (.Pass ⟨0, 0, 0, 0⟩)
abbrev st_q_feed : Stmt := topS 40
abbrev N_q_feed : List Str := ["_law_script"]
theorem sc_q_feed : FnScope N_q_feed ["_law_script"] (defScope st_q_feed) := ⟨rfl, rfl, rfl, by decide +kernel, rfl, by decide +kernel, by decide +kernel⟩
abbrev st_q_later : Stmt := topS 58
abbrev N_q_later : List Str := ["_law_script", "_law_feed_here"]
theorem sc_q_later : FnScope N_q_later ["_law_script"] (defScope st_q_later) := ⟨rfl, rfl, rfl, by decide +kernel, rfl, by decide +kernel, by decide +kernel⟩
abbrev st_q_draw : Stmt := topS 41
abbrev N_q_draw : List Str := ["_law_feed_here", "_law_size", "_law_turn", "_law_digit", "_law_at", "_law_cell", "_law_mixed"]
theorem sc_q_draw : FnScope N_q_draw ["_law_feed_here", "_law_size"] (defScope st_q_draw) := ⟨rfl, rfl, rfl, by decide +kernel, rfl, by decide +kernel, by decide +kernel⟩
abbrev st_q_lowest : Stmt := topS 42
abbrev N_q_lowest : List Str := ["_law_top", "_law_bottom", "_law_one", "_law_other"]
theorem sc_q_lowest : FnScope N_q_lowest ["_law_top", "_law_bottom"] (defScope st_q_lowest) := ⟨rfl, rfl, rfl, by decide +kernel, rfl, by decide +kernel, by decide +kernel⟩
abbrev st_q_by : Stmt := topS 44
abbrev N_q_by : List Str := ["_law_one", "_law_other"]
theorem sc_q_by : FnScope N_q_by ["_law_one", "_law_other"] (defScope st_q_by) := ⟨rfl, rfl, rfl, by decide +kernel, rfl, by decide +kernel, by decide +kernel⟩
abbrev st_q_bounded : Stmt := topS 45
abbrev N_q_bounded : List Str := ["_law_feed_here", "_law_longest", "_law_is_full", "_law_weights", "_law_lack", "_law_total", "_law_k", "_law_one"]
theorem sc_q_bounded : FnScope N_q_bounded ["_law_feed_here", "_law_longest", "_law_is_full"] (defScope st_q_bounded) := ⟨rfl, rfl, rfl, by decide +kernel, rfl, by decide +kernel, by decide +kernel⟩
abbrev st_q_stepped : Stmt := topS 46
abbrev N_q_stepped : List Str := ["_law_feed_here", "_law_bottom", "_law_top", "_law_step", "_law_weights", "_law_rest", "_law_total", "_law_k", "_law_one"]
theorem sc_q_stepped : FnScope N_q_stepped ["_law_feed_here"] (defScope st_q_stepped) := ⟨rfl, rfl, rfl, by decide +kernel, rfl, by decide +kernel, by decide +kernel⟩
abbrev st_q_life : Stmt := topS 47
abbrev N_q_life : List Str := ["_law_feed_here", "_law_way", "_law_row", "_law_step", "_law_less", "_law_one"]
theorem sc_q_life : FnScope N_q_life ["_law_feed_here"] (defScope st_q_life) := ⟨rfl, rfl, rfl, by decide +kernel, rfl, by decide +kernel, by decide +kernel⟩
abbrev st_q_ratio_text : Stmt := topS 48
abbrev N_q_ratio_text : List Str := ["_law_number"]
theorem sc_q_ratio_text : FnScope N_q_ratio_text ["_law_number"] (defScope st_q_ratio_text) := ⟨rfl, rfl, rfl, by decide +kernel, rfl, by decide +kernel, by decide +kernel⟩
abbrev st_q_life_text : Stmt := topS 49
abbrev N_q_life_text : List Str := ["_law_life_here", "_law_words", "_law_one"]
theorem sc_q_life_text : FnScope N_q_life_text ["_law_life_here"] (defScope st_q_life_text) := ⟨rfl, rfl, rfl, by decide +kernel, rfl, by decide +kernel, by decide +kernel⟩
abbrev st_q_add : Stmt := topS 43
abbrev N_q_add : List Str := ["_law_one", "_law_other"]
theorem sc_q_add : FnScope N_q_add ["_law_one", "_law_other"] (defScope st_q_add) := ⟨rfl, rfl, rfl, by decide +kernel, rfl, by decide +kernel, by decide +kernel⟩
abbrev st_q_figures : Stmt := topS 50
abbrev N_q_figures : List Str := ["_law_word", "_law_sign"]
theorem sc_q_figures : FnScope N_q_figures ["_law_word"] (defScope st_q_figures) := ⟨rfl, rfl, rfl, by decide +kernel, rfl, by decide +kernel, by decide +kernel⟩
abbrev st_q_chance : Stmt := topS 51
abbrev N_q_chance : List Str := ["_law_word", "_law_parts", "_law_part"]
theorem sc_q_chance : FnScope N_q_chance ["_law_word"] (defScope st_q_chance) := ⟨rfl, rfl, rfl, by decide +kernel, rfl, by decide +kernel, by decide +kernel⟩
abbrev st_q_is_over : Stmt := topS 52
abbrev N_q_is_over : List Str := ["_law_number"]
theorem sc_q_is_over : FnScope N_q_is_over ["_law_number"] (defScope st_q_is_over) := ⟨rfl, rfl, rfl, by decide +kernel, rfl, by decide +kernel, by decide +kernel⟩
abbrev st_q_read_life : Stmt := topS 53
abbrev N_q_read_life : List Str := ["_law_text", "_law_words", "_law_row", "_law_total", "_law_at", "_law_step", "_law_behind_it", "_law_own"]
theorem sc_q_read_life : FnScope N_q_read_life ["_law_text"] (defScope st_q_read_life) := ⟨rfl, rfl, rfl, by decide +kernel, rfl, by decide +kernel, by decide +kernel⟩
abbrev st_q_signs : Stmt := topS 54
abbrev N_q_signs : List Str := ["_law_some"]
theorem sc_q_signs : FnScope N_q_signs [] (defScope st_q_signs) := ⟨rfl, rfl, rfl, by decide +kernel, rfl, by decide +kernel, by decide +kernel⟩
abbrev st_q_signed : Stmt := topS 55
abbrev N_q_signed : List Str := ["_law_feed_here", "_law_text", "_law_way", "_law_at", "_law_sign", "_law_near", "_law_some"]
theorem sc_q_signed : FnScope N_q_signed ["_law_feed_here", "_law_text"] (defScope st_q_signed) := ⟨rfl, rfl, rfl, by decide +kernel, rfl, by decide +kernel, by decide +kernel⟩
abbrev st_q_worded : Stmt := topS 56
abbrev N_q_worded : List Str := ["_law_feed_here", "_law_text", "_law_words", "_law_way", "_law_at", "_law_menu", "_law_word"]
theorem sc_q_worded : FnScope N_q_worded ["_law_feed_here", "_law_text"] (defScope st_q_worded) := ⟨rfl, rfl, rfl, by decide +kernel, rfl, by decide +kernel, by decide +kernel⟩
abbrev st_common : Stmt := topS 15
abbrev N_common : List Str := ["one", "other"]
theorem sc_common : FnScope N_common ["one", "other"] (defScope st_common) := ⟨rfl, rfl, rfl, by decide +kernel, rfl, by decide +kernel, by decide +kernel⟩
abbrev st_ratio : Stmt := topS 17
abbrev N_ratio : List Str := ["top", "bottom", "sign", "part"]
theorem sc_ratio : FnScope N_ratio ["top", "bottom"] (defScope st_ratio) := ⟨rfl, rfl, rfl, by decide +kernel, rfl, by decide +kernel, by decide +kernel⟩
abbrev st_plus : Stmt := topS 18
abbrev N_plus : List Str := ["one", "other"]
theorem sc_plus : FnScope N_plus ["one", "other"] (defScope st_plus) := ⟨rfl, rfl, rfl, by decide +kernel, rfl, by decide +kernel, by decide +kernel⟩
abbrev st_is_below : Stmt := topS 22
abbrev N_is_below : List Str := ["one", "other"]
theorem sc_is_below : FnScope N_is_below ["one", "other"] (defScope st_is_below) := ⟨rfl, rfl, rfl, by decide +kernel, rfl, by decide +kernel, by decide +kernel⟩
abbrev st_is_whole : Stmt := topS 14
abbrev N_is_whole : List Str := ["thing"]
theorem sc_is_whole : FnScope N_is_whole ["thing"] (defScope st_is_whole) := ⟨rfl, rfl, rfl, by decide +kernel, rfl, by decide +kernel, by decide +kernel⟩
abbrev st_is_ratio : Stmt := topS 16
abbrev N_is_ratio : List Str := ["thing"]
theorem sc_is_ratio : FnScope N_is_ratio ["thing"] (defScope st_is_ratio) := ⟨rfl, rfl, rfl, by decide +kernel, rfl, by decide +kernel, by decide +kernel⟩
abbrev st_number_in : Stmt := topS 35
abbrev N_number_in : List Str := ["word", "sign"]
theorem sc_number_in : FnScope N_number_in ["word"] (defScope st_number_in) := ⟨rfl, rfl, rfl, by decide +kernel, rfl, by decide +kernel, by decide +kernel⟩
abbrev st_chance_in : Stmt := topS 36
abbrev N_chance_in : List Str := ["word", "numbers", "top", "bottom", "part"]
theorem sc_chance_in : FnScope N_chance_in ["word"] (defScope st_chance_in) := ⟨rfl, rfl, rfl, by decide +kernel, rfl, by decide +kernel, by decide +kernel⟩
abbrev st_is_chance : Stmt := topS 25
abbrev N_is_chance : List Str := ["thing"]
theorem sc_is_chance : FnScope N_is_chance ["thing"] (defScope st_is_chance) := ⟨rfl, rfl, rfl, by decide +kernel, rfl, by decide +kernel, by decide +kernel⟩
abbrev st_minus : Stmt := topS 19
abbrev N_minus : List Str := ["one", "other"]
theorem sc_minus : FnScope N_minus ["one", "other"] (defScope st_minus) := ⟨rfl, rfl, rfl, by decide +kernel, rfl, by decide +kernel, by decide +kernel⟩
abbrev st_times : Stmt := topS 20
abbrev N_times : List Str := ["one", "other"]
theorem sc_times : FnScope N_times ["one", "other"] (defScope st_times) := ⟨rfl, rfl, rfl, by decide +kernel, rfl, by decide +kernel, by decide +kernel⟩
abbrev st_over : Stmt := topS 21
abbrev N_over : List Str := ["one", "other"]
theorem sc_over : FnScope N_over ["one", "other"] (defScope st_over) := ⟨rfl, rfl, rfl, by decide +kernel, rfl, by decide +kernel, by decide +kernel⟩
abbrev st_summed : Stmt := topS 23
abbrev N_summed : List Str := ["some", "found", "one"]
theorem sc_summed : FnScope N_summed ["some"] (defScope st_summed) := ⟨rfl, rfl, rfl, by decide +kernel, rfl, by decide +kernel, by decide +kernel⟩
abbrev st_chances_added : Stmt := topS 26
abbrev N_chances_added : List Str := ["life", "row", "step", "found"]
theorem sc_chances_added : FnScope N_chances_added ["life"] (defScope st_chances_added) := ⟨rfl, rfl, rfl, by decide +kernel, rfl, by decide +kernel, by decide +kernel⟩
abbrev st_is_life : Stmt := topS 27
abbrev N_is_life : List Str := ["thing", "one"]
theorem sc_is_life : FnScope N_is_life ["thing"] (defScope st_is_life) := ⟨rfl, rfl, rfl, by decide +kernel, rfl, by decide +kernel, by decide +kernel⟩
abbrev st_read_step_X : Stmt := topS 37
abbrev N_read_step_X : List Str := ["words", "row", "at", "step"]
theorem sc_read_step_X : FnScope N_read_step_X ["words", "row"] (defScope st_read_step_X) := ⟨rfl, rfl, rfl, by decide +kernel, rfl, by decide +kernel, by decide +kernel⟩
abbrev st_read_life_X : Stmt := topS 38
abbrev N_read_life_X : List Str := ["text", "words", "row", "total", "at", "word", "chance"]
theorem sc_read_life_X : FnScope N_read_life_X ["text"] (defScope st_read_life_X) := ⟨rfl, rfl, rfl, by decide +kernel, rfl, by decide +kernel, by decide +kernel⟩
abbrev st_q_told : Stmt := topS 57
abbrev N_q_told : List Str := ["_law_text", "_law_found", "e", "_law_others"]
theorem sc_q_told : FnScope N_q_told ["_law_text"] (defScope st_q_told) := ⟨rfl, rfl, rfl, by decide +kernel, rfl, by decide +kernel, by decide +kernel⟩
abbrev st_q_wide_texts : Stmt := topS 59
abbrev N_q_wide_texts : List Str := ["_law_feed_here", "_law_words", "_law_text"]
theorem sc_q_wide_texts : FnScope N_q_wide_texts ["_law_feed_here"] (defScope st_q_wide_texts) := ⟨rfl, rfl, rfl, by decide +kernel, rfl, by decide +kernel, by decide +kernel⟩
abbrev st_law : Stmt := topS 60
abbrev N_law : List Str := ["_law_script", "_law_feed_here", "_law_texts", "_law_k", "_law_good", "_law_turn", "_law_bent", "_law_words", "_law_text", "_law_due"]
theorem sc_law : FnScope N_law ["_law_script"] (defScope st_law) := ⟨rfl, rfl, rfl, by decide +kernel, rfl, by decide +kernel, by decide +kernel⟩
/-- what the top has written: the facts -/
abbrev st_i_NoText : Stmt := inClass (topS 7) 0
theorem sc_i_NoText : FnScope ["self", "at"] ["self", "at"] (defScope st_i_NoText) := ⟨rfl, rfl, rfl, by decide +kernel, rfl, by decide +kernel, by decide +kernel⟩
structure Txt (K : PySem.W.Frag) (mg : Str → Option Value) : Prop where
  e_ok : excAll K = true
  p_FreshError : ErrP K mg "FreshError"
  p_NoAge : ErrP K mg "NoAge"
  p_NoBeat : ErrP K mg "NoBeat"
  p_NoLines : ErrP K mg "NoLines"
  p_NoName : ErrP K mg "NoName"
  p_NoPaper : ErrP K mg "NoPaper"
  p_NoRatio : ErrP K mg "NoRatio"
  p_NoRow : ErrP K mg "NoRow"
  p_NoText : ErrP K mg "NoText"
  p_TooMany : ErrP K mg "TooMany"
  p_ValueError : ErrT K mg "ValueError" (.type "ValueError")
  b_FE : ErrB K mg
  r_NoText : ErrS K mg "NoText" ["at"] "NoText.__init__" st_i_NoText
  n_abs : mg "abs" = none
  n_all : mg "all" = none
  n_bool : mg "bool" = none
  n_enumerate : mg "enumerate" = none
  n_int : mg "int" = none
  n_isinstance : mg "isinstance" = none
  n_len : mg "len" = none
  n_list : mg "list" = none
  n_max : mg "max" = none
  n_range : mg "range" = none
  n_repr : mg "repr" = none
  n_str : mg "str" = none
  n_sum : mg "sum" = none
  n_tuple : mg "tuple" = none
  s_q_feed : Src K mg "_law_feed" "_law_feed" st_q_feed ["_law_script"]
  s_q_later : Src K mg "_law_later" "_law_later" st_q_later ["_law_script"]
  s_q_draw : Src K mg "_law_draw" "_law_draw" st_q_draw ["_law_feed_here", "_law_size"]
  s_q_lowest : Src K mg "_law_lowest" "_law_lowest" st_q_lowest ["_law_top", "_law_bottom"]
  s_q_by : Src K mg "_law_by" "_law_by" st_q_by ["_law_one", "_law_other"]
  s_q_bounded : Src K mg "_law_bounded" "_law_bounded" st_q_bounded ["_law_feed_here", "_law_longest", "_law_is_full"]
  s_q_stepped : Src K mg "_law_stepped" "_law_stepped" st_q_stepped ["_law_feed_here"]
  s_q_life : Src K mg "_law_life" "_law_life" st_q_life ["_law_feed_here"]
  s_q_ratio_text : Src K mg "_law_ratio_text" "_law_ratio_text" st_q_ratio_text ["_law_number"]
  s_q_life_text : Src K mg "_law_life_text" "_law_life_text" st_q_life_text ["_law_life_here"]
  s_q_add : Src K mg "_law_add" "_law_add" st_q_add ["_law_one", "_law_other"]
  s_q_figures : Src K mg "_law_figures" "_law_figures" st_q_figures ["_law_word"]
  s_q_chance : Src K mg "_law_chance" "_law_chance" st_q_chance ["_law_word"]
  s_q_is_over : Src K mg "_law_is_over" "_law_is_over" st_q_is_over ["_law_number"]
  s_q_read_life : Src K mg "_law_read_life" "_law_read_life" st_q_read_life ["_law_text"]
  s_q_signs : Src K mg "_law_signs" "_law_signs" st_q_signs []
  s_q_signed : Src K mg "_law_signed" "_law_signed" st_q_signed ["_law_feed_here", "_law_text"]
  s_q_worded : Src K mg "_law_worded" "_law_worded" st_q_worded ["_law_feed_here", "_law_text"]
  s_common : Src K mg "common" "common" st_common ["one", "other"]
  s_ratio : Src K mg "ratio" "ratio" st_ratio ["top", "bottom"]
  s_plus : Src K mg "plus" "plus" st_plus ["one", "other"]
  s_is_below : Src K mg "is_below" "is_below" st_is_below ["one", "other"]
  s_is_whole : Src K mg "is_whole" "is_whole" st_is_whole ["thing"]
  s_is_ratio : Src K mg "is_ratio" "is_ratio" st_is_ratio ["thing"]
  s_number_in : Src K mg "number_in" "number_in" st_number_in ["word"]
  s_chance_in : Src K mg "chance_in" "chance_in" st_chance_in ["word"]
  s_is_chance : Src K mg "is_chance" "is_chance" st_is_chance ["thing"]
  s_minus : Src K mg "minus" "minus" st_minus ["one", "other"]
  s_times : Src K mg "times" "times" st_times ["one", "other"]
  s_over : Src K mg "over" "over" st_over ["one", "other"]
  s_summed : Src K mg "summed" "summed" st_summed ["some"]
  s_chances_added : Src K mg "chances_added" "chances_added" st_chances_added ["life"]
  s_is_life : Src K mg "is_life" "is_life" st_is_life ["thing"]
  s_read_step_X : Src K mg "read_step" "read_step" st_read_step_X ["words", "row"]
  s_read_life_X : Src K mg "read_life" "read_life" st_read_life_X ["text"]
  s_q_told : Src K mg "_law_told" "_law_told" st_q_told ["_law_text"]
  s_q_wide_texts : Src K mg "_law_wide_texts" "_law_wide_texts" st_q_wide_texts ["_law_feed_here"]
  s_law : Src K mg "law" "law" st_law ["_law_script"]
  k_NOUGHT_ratios : ∃ a, mg "NOUGHT_ratios" = some (.ref a) ∧ ∀ HF, DR K HF (.ref a) d_NOUGHT
  k_ONE_ratios : ∃ a, mg "ONE_ratios" = some (.ref a) ∧ ∀ HF, DR K HF (.ref a) d_ONE
  k_FIGURES : ∃ t, mg "FIGURES" = some (.str "0123456789" t)
  k_MOST_FIGURES : ∃ t, mg "MOST_FIGURES" = some (.int 3 t)
  k_NOUGHT_texts : ∃ a, mg "NOUGHT_texts" = some (.ref a) ∧ ∀ HF, DR K HF (.ref a) d_NOUGHT
  k_ONE_texts : ∃ a, mg "ONE_texts" = some (.ref a) ∧ ∀ HF, DR K HF (.ref a) d_ONE
  k_NONE_THERE : ∃ t, mg "NONE_THERE" = some (.str "-" t)
  k_BEHIND : ∃ t, mg "BEHIND" = some (.str ";" t)
theorem c_NOUGHT_ratios {K : PySem.W.Frag} {mg : Str → Option Value} (T : Txt K mg) {X : Cx} {W : Wish} {p : Pos} (hK : X.K = K) (hm : X.mg = mg) (hg : Gl X "NOUGHT_ratios") : DE X W (.Name "NOUGHT_ratios" p) (cC d_NOUGHT) := by
  subst hK
  subst hm
  obtain ⟨a, h1, h2⟩ := T.k_NOUGHT_ratios
  exact de_glob hg h1 (v := .ref a) rfl h2 (by decide)
theorem c_ONE_ratios {K : PySem.W.Frag} {mg : Str → Option Value} (T : Txt K mg) {X : Cx} {W : Wish} {p : Pos} (hK : X.K = K) (hm : X.mg = mg) (hg : Gl X "ONE_ratios") : DE X W (.Name "ONE_ratios" p) (cC d_ONE) := by
  subst hK
  subst hm
  obtain ⟨a, h1, h2⟩ := T.k_ONE_ratios
  exact de_glob hg h1 (v := .ref a) rfl h2 (by decide)
theorem c_FIGURES {K : PySem.W.Frag} {mg : Str → Option Value} (T : Txt K mg) {X : Cx} {W : Wish} {p : Pos} (hK : X.K = K) (hm : X.mg = mg) (hg : Gl X "FIGURES") : DE X W (.Name "FIGURES" p) (cC d_FIGURES) := by
  subst hK
  subst hm
  obtain ⟨t, h1⟩ := T.k_FIGURES
  exact de_glob hg h1 (v := .str "0123456789") ⟨t, rfl⟩ (fun _ => .str _) (by decide)
theorem c_MOST_FIGURES {K : PySem.W.Frag} {mg : Str → Option Value} (T : Txt K mg) {X : Cx} {W : Wish} {p : Pos} (hK : X.K = K) (hm : X.mg = mg) (hg : Gl X "MOST_FIGURES") : DE X W (.Name "MOST_FIGURES" p) (cC d_MOST_WAYS_v2) := by
  subst hK
  subst hm
  obtain ⟨t, h1⟩ := T.k_MOST_FIGURES
  exact de_glob hg h1 (v := .int 3) ⟨t, rfl⟩ (fun _ => .int _) (by decide)
theorem c_NOUGHT_texts {K : PySem.W.Frag} {mg : Str → Option Value} (T : Txt K mg) {X : Cx} {W : Wish} {p : Pos} (hK : X.K = K) (hm : X.mg = mg) (hg : Gl X "NOUGHT_texts") : DE X W (.Name "NOUGHT_texts" p) (cC d_NOUGHT) := by
  subst hK
  subst hm
  obtain ⟨a, h1, h2⟩ := T.k_NOUGHT_texts
  exact de_glob hg h1 (v := .ref a) rfl h2 (by decide)
theorem c_ONE_texts {K : PySem.W.Frag} {mg : Str → Option Value} (T : Txt K mg) {X : Cx} {W : Wish} {p : Pos} (hK : X.K = K) (hm : X.mg = mg) (hg : Gl X "ONE_texts") : DE X W (.Name "ONE_texts" p) (cC d_ONE) := by
  subst hK
  subst hm
  obtain ⟨a, h1, h2⟩ := T.k_ONE_texts
  exact de_glob hg h1 (v := .ref a) rfl h2 (by decide)
theorem c_NONE_THERE {K : PySem.W.Frag} {mg : Str → Option Value} (T : Txt K mg) {X : Cx} {W : Wish} {p : Pos} (hK : X.K = K) (hm : X.mg = mg) (hg : Gl X "NONE_THERE") : DE X W (.Name "NONE_THERE" p) (cC d_NONE_THERE) := by
  subst hK
  subst hm
  obtain ⟨t, h1⟩ := T.k_NONE_THERE
  exact de_glob hg h1 (v := .str "-") ⟨t, rfl⟩ (fun _ => .str _) (by decide)
theorem c_BEHIND {K : PySem.W.Frag} {mg : Str → Option Value} (T : Txt K mg) {X : Cx} {W : Wish} {p : Pos} (hK : X.K = K) (hm : X.mg = mg) (hg : Gl X "BEHIND") : DE X W (.Name "BEHIND" p) (cC d_BEHIND) := by
  subst hK
  subst hm
  obtain ⟨t, h1⟩ := T.k_BEHIND
  exact de_glob hg h1 (v := .str ";") ⟨t, rfl⟩ (fun _ => .str _) (by decide)
theorem i_NoText {P : Program} {w : World} {K : PySem.W.Frag} {mg : Str → Option Value} {base : Heap} (T : Txt K mg) : ErrI P w K mg base "NoText" ["at"] :=
  errI_mk (tt := tI1 K "no text" "at") T.b_FE T.r_NoText sc_i_NoText ini1 fun b1 b2 b3 b4 f cdv A outer s H E => (pss_cons (ps_expr (pe_finit (by rfl) b1 b2 b3 b4 (pa_cons (pv 0) (pa_cons pe_str pa_nil)))) (pss_one (ps_ost (pv 0) (pv 1))))
section
variable {P : Program} {w : World} {K : PySem.W.Frag} {mg : Str → Option Value} {base : Heap}
theorem h_q_draw (T : Txt K mg)  : Has P w K mg base 1 "_law_draw" ["_law_feed_here", "_law_size"] F_q_draw_v3 :=
  has_mk (k := 0) T.s_q_draw sc_q_draw fun ff cdv A outer s0 H E gd hr => by
    have hu := hr.units
    exact (dss_cons (ds_set (i := 2) sc_q_draw.nd rfl (.inl rfl) (de_add (de_feed (hu1 hu) (de_var (pv 0)) (fun _ _ => rfl)) de_int)) (dss_cons (ds_feed (hu1 hu) (de_var (pv 0)) (de_var (pv 2))) (dss_cons (ds_if (dt_gt (de_feed (hu1 hu) (de_var (pv 0)) (fun _ _ => rfl)) de_int) (dss_cons (ds_set (i := 3) sc_q_draw.nd rfl (.inl rfl) (de_mod (de_feed (hu1 hu) (de_var (pv 0)) (fun _ _ => rfl)) (de_var (pv 1)))) (dss_cons (ds_feed (hu1 hu) (de_var (pv 0)) (de_fdiv (de_feed (hu1 hu) (de_var (pv 0)) (fun _ _ => rfl)) (de_var (pv 1)))) (dss_one (ds_ret (de_var (pv 3)))))) dss_nil) (dss_cons (ds_set (i := 4) sc_q_draw.nd rfl (.inl rfl) (de_feed (hu1 hu) (de_var (pv 0)) (fun _ _ => rfl))) (dss_cons (ds_feed (hu1 hu) (de_var (pv 0)) (de_add (de_var (pv 4)) de_int)) (dss_cons (ds_set (i := 5) sc_q_draw.nd rfl (.inl rfl) (de_if (dt_ne hu (de_feed (hu1 hu) (de_var (pv 0)) (fun _ _ => rfl)) (de_lst da_nil)) (de_ix (de_feed (hu1 hu) (de_var (pv 0)) (fun _ _ => rfl)) (de_mod (de_var (pv 4)) (de_len (by rfl) T.n_len (de_feed (hu1 hu) (de_var (pv 0)) (fun _ _ => rfl)))) (fun _ _ => rfl)) de_int)) (dss_cons (ds_if (dt_w (dw_and (dt_ge (de_var (pv 5)) (de_pow de_int de_int)) (dw_and1 (dt_lt (de_var (pv 4)) (de_len (by rfl) T.n_len (de_feed (hu1 hu) (de_var (pv 0)) (fun _ _ => rfl))))))) (dss_cons (ds_feed (hu1 hu) (de_var (pv 0)) (de_fdiv (de_var (pv 5)) (de_var (pv 1)))) (dss_one (ds_ret (de_mod (de_var (pv 5)) (de_var (pv 1)))))) dss_nil) (dss_cons (ds_set (i := 6) sc_q_draw.nd rfl (.inl rfl) (de_mod (de_pow (de_add (de_add (de_mod (de_var (pv 5)) de_int) (de_mul de_int (de_var (pv 2)))) de_int) de_int) de_int)) (dss_cons (ds_set (i := 6) sc_q_draw.nd rfl (.inl rfl) (de_mod (de_pow (de_add (de_var (pv 6)) (de_mul de_int (de_var (pv 2)))) de_int) de_int)) (dss_one (ds_ret (de_mod (de_fdiv (de_var (pv 6)) de_int) (de_var (pv 1))))))))))))))
theorem h_q_lowest (T : Txt K mg)  : Has P w K mg base 1 "_law_lowest" ["_law_top", "_law_bottom"] F_q_lowest :=
  has_mk (k := 0) T.s_q_lowest sc_q_lowest fun ff cdv A outer s0 H E gd hr => by
    have hu := hr.units
    exact (dss_cons (ds_par (i := 2) (j := 3) rfl sc_q_lowest.nd rfl rfl (by decide) rfl rfl (da_cons (de_abs (by rfl) T.n_abs (de_var (pv 0))) (da_cons (de_var (pv 1)) da_nil)) (by rfl)) (dss_cons (ds_while PassesOwn.never (dt_gt (de_var (pv 3)) de_int) (dss_one (ds_par (i := 2) (j := 3) rfl sc_q_lowest.nd rfl rfl (by decide) rfl rfl (da_cons (de_var (pv 3)) (da_cons (de_mod (de_var (pv 2)) (de_var (pv 3))) da_nil)) (by rfl)))) (dss_one (ds_ret (de_tup (da_cons (de_fdiv (de_var (pv 0)) (de_var (pv 2))) (da_cons (de_fdiv (de_var (pv 1)) (de_var (pv 2))) da_nil)))))))
theorem h_q_by (T : Txt K mg) (H_q_lowest : Has P w K mg base 1 "_law_lowest" ["_law_top", "_law_bottom"] F_q_lowest) : Has P w K mg base 2 "_law_by" ["_law_one", "_law_other"] F_q_by :=
  has_mk (k := 1) T.s_q_by sc_q_by fun ff cdv A outer s0 H E gd hr => by
    have hu := hr.units
    exact (dss_one (ds_ret (de_has H_q_lowest gd (hr.mono (by decide)) (by rfl) (da_cons (de_mul (de_ix (de_var (pv 0)) de_int (fun _ _ => rfl)) (de_ix (de_var (pv 1)) de_int (fun _ _ => rfl))) (da_cons (de_mul (de_ix (de_var (pv 0)) de_int (fun _ _ => rfl)) (de_ix (de_var (pv 1)) de_int (fun _ _ => rfl))) da_nil)))))
theorem h_q_bounded (T : Txt K mg) (H_q_draw : Has P w K mg base 1 "_law_draw" ["_law_feed_here", "_law_size"] F_q_draw_v3) (H_q_lowest : Has P w K mg base 1 "_law_lowest" ["_law_top", "_law_bottom"] F_q_lowest) : Has P w K mg base 2 "_law_bounded" ["_law_feed_here", "_law_longest", "_law_is_full"] F_q_bounded_v2 :=
  has_mk (k := 1) T.s_q_bounded sc_q_bounded fun ff cdv A outer s0 H E gd hr => by
    have hu := hr.units
    exact (dss_cons (ds_setLc (i := 3) (own := [("_law_k", 6)]) (T := (.one 6)) rfl sc_q_bounded.nd rfl rfl (sw_true rfl rfl rfl (by decide +kernel)) (di_range1 (by rfl) T.n_range (de_has H_q_draw gd (hr.mono (by decide)) (by rfl) (da_cons (de_var (pv 0)) (da_cons (de_add (de_var (pv 1)) de_int) da_nil)))) (blkOk_by (own := [("_law_k", 6)]) (N := N_q_bounded) (sc := defScope st_q_bounded) (by decide +kernel)) (by decide) (fun _ _ _ _ _ => (dg_one sc_q_bounded.nd rfl (.inl rfl))) (fun _ _ _ _ _ => ts_nil) (fun _ _ _ _ _ => (de_mul (de_has H_q_draw gd (hr.mono (by decide)) (by rfl) (da_cons (de_var (pv 0)) (da_cons de_int da_nil))) (de_int1 (by rfl) T.n_int (de_gt (de_has H_q_draw gd (hr.mono (by decide)) (by rfl) (da_cons (de_var (pv 0)) (da_cons de_int da_nil))) de_int))))) (dss_frz 3 (dss_cons (ds_set (i := 4) sc_q_bounded.nd rfl (.inl rfl) (de_ix (de_lst (da_cons de_int (da_cons de_int (da_cons de_int (da_cons de_int da_nil))))) (de_has H_q_draw gd (hr.mono (by decide)) (by rfl) (da_cons (de_var (pv 0)) (da_cons de_int da_nil))) (fun _ _ => rfl))) (dss_cons (ds_if (dt_val (de_var (pv 2))) (dss_cons (ds_set (i := 4) sc_q_bounded.nd rfl (.inl rfl) de_int) (dss_one (ds_set (i := 3) sc_q_bounded.nd rfl (.inl rfl) (de_if (dt_eq hu (de_sum rfl (by rfl) T.n_sum (de_var (pv 3))) de_int) (de_add (de_slice (de_var (pv 3)) do_none (do_some (de_sub (de_var (pv 1)) de_int))) (de_lst (da_cons de_int da_nil))) (de_var (pv 3)))))) dss_nil) (dss_frz 3 (dss_cons (ds_set (i := 5) sc_q_bounded.nd rfl (.inr rfl) (de_max2 rfl (by rfl) T.n_max de_int (de_add (de_sum rfl (by rfl) T.n_sum (de_var (pv 3))) (de_var (pv 4))))) (dss_one (ds_ret (de_tup (da_cons (de_tuple (by rfl) T.n_tuple (de_lc (own := [("_law_one", 7)]) (T := (.one 7)) rfl sc_q_bounded.nd (di_seq (de_var (pv 3))) (blkOk_by (own := [("_law_one", 7)]) (N := N_q_bounded) (sc := defScope st_q_bounded) (by decide +kernel)) (by decide) (fun _ _ _ _ _ => (dg_one sc_q_bounded.nd rfl (.inl rfl))) (fun _ _ _ _ _ => ts_nil) (fun _ _ _ _ _ => (de_has H_q_lowest gd (hr.mono (by decide)) (by rfl) (da_cons (de_var (pv 7)) (da_cons (de_var (pv 5)) da_nil)))))) (da_cons (de_tup (da_cons de_int (da_cons de_int da_nil))) da_nil)))))))))))
theorem h_q_stepped (T : Txt K mg) (H_q_draw : Has P w K mg base 1 "_law_draw" ["_law_feed_here", "_law_size"] F_q_draw_v3) (H_q_lowest : Has P w K mg base 1 "_law_lowest" ["_law_top", "_law_bottom"] F_q_lowest) : Has P w K mg base 2 "_law_stepped" ["_law_feed_here"] F_q_stepped :=
  has_mk (k := 1) T.s_q_stepped sc_q_stepped fun ff cdv A outer s0 H E gd hr => by
    have hu := hr.units
    exact (dss_cons (ds_set (i := 1) sc_q_stepped.nd rfl (.inl rfl) (de_add de_int (de_has H_q_draw gd (hr.mono (by decide)) (by rfl) (da_cons (de_var (pv 0)) (da_cons de_int da_nil))))) (dss_cons (ds_set (i := 2) sc_q_stepped.nd rfl (.inl rfl) (de_add de_int (de_has H_q_draw gd (hr.mono (by decide)) (by rfl) (da_cons (de_var (pv 0)) (da_cons (de_sub (de_var (pv 1)) de_int) da_nil))))) (dss_cons (ds_set (i := 3) sc_q_stepped.nd rfl (.inl rfl) (de_has H_q_lowest gd (hr.mono (by decide)) (by rfl) (da_cons (de_var (pv 2)) (da_cons (de_var (pv 1)) da_nil)))) (dss_cons (ds_set (i := 4) sc_q_stepped.nd rfl (.inl rfl) (de_add (de_lc (own := [("_law_k", 7)]) (T := (.one 7)) rfl sc_q_stepped.nd (di_range1 (by rfl) T.n_range (de_has H_q_draw gd (hr.mono (by decide)) (by rfl) (da_cons (de_var (pv 0)) (da_cons de_int da_nil)))) (blkOk_by (own := [("_law_k", 7)]) (N := N_q_stepped) (sc := defScope st_q_stepped) (by decide +kernel)) (by decide) (fun _ _ _ _ _ => (dg_one sc_q_stepped.nd rfl (.inl rfl))) (fun _ _ _ _ _ => ts_nil) (fun _ _ _ _ _ => (de_has H_q_draw gd (hr.mono (by decide)) (by rfl) (da_cons (de_var (pv 0)) (da_cons de_int da_nil))))) (de_lst (da_cons (de_add de_int (de_has H_q_draw gd (hr.mono (by decide)) (by rfl) (da_cons (de_var (pv 0)) (da_cons de_int da_nil)))) da_nil)))) (dss_frz 4 (dss_cons (ds_set (i := 5) sc_q_stepped.nd rfl (.inr rfl) (de_sub (de_ix (de_var (pv 3)) de_int (fun _ _ => rfl)) (de_ix (de_var (pv 3)) de_int (fun _ _ => rfl)))) (dss_cons (ds_set (i := 6) sc_q_stepped.nd rfl (.inr rfl) (de_add (de_mul (de_sum rfl (by rfl) T.n_sum (de_var (pv 4))) (de_var (pv 5))) (de_mul (de_ix (de_var (pv 4)) (de_neg de_int) (fun _ _ => rfl)) (de_ix (de_var (pv 3)) de_int (fun _ _ => rfl))))) (dss_one (ds_ret (de_tup (da_cons (de_tuple (by rfl) T.n_tuple (de_lc (own := [("_law_one", 8)]) (T := (.one 8)) rfl sc_q_stepped.nd (di_seq (de_var (pv 4))) (blkOk_by (own := [("_law_one", 8)]) (N := N_q_stepped) (sc := defScope st_q_stepped) (by decide +kernel)) (by decide) (fun _ _ _ _ _ => (dg_one sc_q_stepped.nd rfl (.inl rfl))) (fun _ _ _ _ _ => ts_nil) (fun _ _ _ _ _ => (de_has H_q_lowest gd (hr.mono (by decide)) (by rfl) (da_cons (de_mul (de_var (pv 8)) (de_var (pv 5))) (da_cons (de_var (pv 6)) da_nil)))))) (da_cons (de_var (pv 3)) da_nil))))))))))))
theorem h_q_life (T : Txt K mg) (H_q_draw : Has P w K mg base 1 "_law_draw" ["_law_feed_here", "_law_size"] F_q_draw_v3) (H_q_by : Has P w K mg base 2 "_law_by" ["_law_one", "_law_other"] F_q_by) (H_q_bounded : Has P w K mg base 2 "_law_bounded" ["_law_feed_here", "_law_longest", "_law_is_full"] F_q_bounded_v2) (H_q_stepped : Has P w K mg base 2 "_law_stepped" ["_law_feed_here"] F_q_stepped) : Has P w K mg base 3 "_law_life" ["_law_feed_here"] F_q_life_v2 :=
  has_mk (k := 2) T.s_q_life sc_q_life fun ff cdv A outer s0 H E gd hr => by
    have hu := hr.units
    exact (dss_cons (ds_set (i := 1) sc_q_life.nd rfl (.inl rfl) (de_has H_q_draw gd (hr.mono (by decide)) (by rfl) (da_cons (de_var (pv 0)) (da_cons de_int da_nil)))) (dss_cons (ds_if (dt_lt (de_var (pv 1)) de_int) (dss_one (ds_ret (de_has H_q_bounded gd (hr.mono (by decide)) (by rfl) (da_cons (de_var (pv 0)) (da_cons de_int (da_cons (de_eq hu (de_var (pv 1)) de_int) da_nil)))))) dss_nil) (dss_cons (ds_asg (T := (.many [2, 3])) (de_has H_q_stepped gd (hr.mono (by decide)) (by rfl) (da_cons (de_var (pv 0)) da_nil)) (dg_many rfl (dga_cons (pg_name (i := 2) sc_q_life.nd rfl (.inl rfl)) (dga_cons (pg_name (i := 3) sc_q_life.nd rfl (.inl rfl)) dga_nil)))) (dss_cons (ds_if (dt_eq hu (de_var (pv 1)) de_int) (dss_one (ds_ret (de_tup (da_cons (de_var (pv 2)) (da_cons (de_var (pv 3)) da_nil))))) dss_nil) (dss_cons (ds_set (i := 4) sc_q_life.nd rfl (.inr rfl) (de_ix (de_lst (da_cons (de_tup (da_cons de_int (da_cons de_int da_nil))) (da_cons (de_tup (da_cons de_int (da_cons de_int da_nil))) (da_cons (de_tup (da_cons de_int (da_cons de_int da_nil))) (da_cons (de_tup (da_cons de_int (da_cons de_int da_nil))) da_nil))))) (de_has H_q_draw gd (hr.mono (by decide)) (by rfl) (da_cons (de_var (pv 0)) (da_cons de_int da_nil))) (fun _ _ => rfl))) (dss_one (ds_ret (de_tup (da_cons (de_tuple (by rfl) T.n_tuple (de_lc (own := [("_law_one", 5)]) (T := (.one 5)) rfl sc_q_life.nd (di_seq (de_var (pv 2))) (blkOk_by (own := [("_law_one", 5)]) (N := N_q_life) (sc := defScope st_q_life) (by decide +kernel)) (by decide) (fun _ _ _ _ _ => (dg_one sc_q_life.nd rfl (.inl rfl))) (fun _ _ _ _ _ => ts_nil) (fun _ _ _ _ _ => (de_has H_q_by gd (hr.mono (by decide)) (by rfl) (da_cons (de_var (pv 5)) (da_cons (de_var (pv 4)) da_nil)))))) (da_cons (de_var (pv 3)) da_nil))))))))))
theorem h_q_ratio_text (T : Txt K mg)  : Has P w K mg base 1 "_law_ratio_text" ["_law_number"] F_q_ratio_text :=
  has_mk (k := 0) T.s_q_ratio_text sc_q_ratio_text fun ff cdv A outer s0 H E gd hr => by
    have hu := hr.units
    exact (dss_one (ds_ret (de_if (dt_eq hu (de_ix (de_var (pv 0)) de_int (fun _ _ => rfl)) de_int) (de_strI (by rfl) T.n_str (de_ix (de_var (pv 0)) de_int (fun _ _ => rfl))) (de_add (de_add (de_strI (by rfl) T.n_str (de_ix (de_var (pv 0)) de_int (fun _ _ => rfl))) de_str) (de_strI (by rfl) T.n_str (de_ix (de_var (pv 0)) de_int (fun _ _ => rfl)))))))
theorem h_q_life_text (T : Txt K mg) (H_q_ratio_text : Has P w K mg base 1 "_law_ratio_text" ["_law_number"] F_q_ratio_text) : Has P w K mg base 2 "_law_life_text" ["_law_life_here"] F_q_life_text :=
  has_mk (k := 1) T.s_q_life_text sc_q_life_text fun ff cdv A outer s0 H E gd hr => by
    have hu := hr.units
    exact (dss_cons (ds_setLc (i := 1) (own := [("_law_one", 2)]) (T := (.one 2)) rfl sc_q_life_text.nd rfl rfl (sw_true rfl rfl rfl (by decide +kernel)) (di_seq (de_ix (de_var (pv 0)) de_int (fun _ _ => rfl))) (blkOk_by (own := [("_law_one", 2)]) (N := N_q_life_text) (sc := defScope st_q_life_text) (by decide +kernel)) (by decide) (fun _ _ _ _ _ => (dg_one sc_q_life_text.nd rfl (.inl rfl))) (fun _ _ _ _ _ => ts_nil) (fun _ _ _ _ _ => (de_has H_q_ratio_text gd (hr.mono (by decide)) (by rfl) (da_cons (de_var (pv 2)) da_nil)))) (dss_frz 1 (dss_cons (ds_if (dt_eq hu (de_var (pv 1)) (de_lst da_nil)) (dss_one (ds_set (i := 1) sc_q_life_text.nd rfl (.inl rfl) (de_lst (da_cons de_str da_nil)))) dss_nil) (dss_frz 1 (dss_cons (ds_if (dt_ne hu (de_ix (de_var (pv 0)) de_int (fun _ _ => rfl)) (de_tup (da_cons de_int (da_cons de_int da_nil)))) (dss_one (ds_set (i := 1) sc_q_life_text.nd rfl (.inl rfl) (de_add (de_var (pv 1)) (de_lst (da_cons de_str (da_cons (de_has H_q_ratio_text gd (hr.mono (by decide)) (by rfl) (da_cons (de_ix (de_var (pv 0)) de_int (fun _ _ => rfl)) da_nil)) da_nil)))))) dss_nil) (dss_frz 1 (dss_one (ds_ret (de_join de_str (de_var (pv 1)))))))))))
theorem h_q_add (T : Txt K mg) (H_q_lowest : Has P w K mg base 1 "_law_lowest" ["_law_top", "_law_bottom"] F_q_lowest) : Has P w K mg base 2 "_law_add" ["_law_one", "_law_other"] F_q_add :=
  has_mk (k := 1) T.s_q_add sc_q_add fun ff cdv A outer s0 H E gd hr => by
    have hu := hr.units
    exact (dss_one (ds_ret (de_has H_q_lowest gd (hr.mono (by decide)) (by rfl) (da_cons (de_add (de_mul (de_ix (de_var (pv 0)) de_int (fun _ _ => rfl)) (de_ix (de_var (pv 1)) de_int (fun _ _ => rfl))) (de_mul (de_ix (de_var (pv 1)) de_int (fun _ _ => rfl)) (de_ix (de_var (pv 0)) de_int (fun _ _ => rfl)))) (da_cons (de_mul (de_ix (de_var (pv 0)) de_int (fun _ _ => rfl)) (de_ix (de_var (pv 1)) de_int (fun _ _ => rfl))) da_nil)))))
theorem h_q_figures (T : Txt K mg)  : Has P w K mg base 1 "_law_figures" ["_law_word"] F_q_figures :=
  has_mk (k := 0) T.s_q_figures sc_q_figures fun ff cdv A outer s0 H E gd hr => by
    have hu := hr.units
    exact (dss_cons (ds_if (dt_w (dw_or (dt_not (dt_chain op_le intsB_ok op_le intsB_ok de_int (de_lenA (by rfl) T.n_len (de_var (pv 0))) de_int)) (dw_or1 (dt_neE hu (de_lc (own := [("_law_sign", 1)]) (T := (.one 1)) rfl sc_q_figures.nd (di_str (de_var (pv 0))) (blkOk_by (own := [("_law_sign", 1)]) (N := N_q_figures) (sc := defScope st_q_figures) (by decide +kernel)) (by decide) (fun _ _ _ _ _ => (dg_one sc_q_figures.nd rfl (.inl rfl))) (fun _ _ _ _ _ => (ts_one (dt_ninSg (de_var (pv 1)) de_str))) (fun _ _ _ _ _ => (de_var (pv 1)))) (de_lst da_nil))))) (dss_one (ds_ret de_non)) dss_nil) (dss_one (ds_ret (de_if (dt_w (dw_and (dt_eq hu (de_ix (de_var (pv 0)) de_int (fun _ _ => rfl)) de_str) (dw_and1 (dt_ne hu (de_var (pv 0)) de_str)))) de_non (de_intS (by rfl) T.n_int (de_var (pv 0)))))))
theorem h_q_chance (T : Txt K mg) (H_q_lowest : Has P w K mg base 1 "_law_lowest" ["_law_top", "_law_bottom"] F_q_lowest) (H_q_figures : Has P w K mg base 1 "_law_figures" ["_law_word"] F_q_figures) : Has P w K mg base 2 "_law_chance" ["_law_word"] F_q_chance_v2 :=
  has_mk (k := 1) T.s_q_chance sc_q_chance fun ff cdv A outer s0 H E gd hr => by
    have hu := hr.units
    exact (dss_cons (ds_setLc (i := 1) (own := [("_law_part", 2)]) (T := (.one 2)) rfl sc_q_chance.nd rfl rfl (sw_true rfl rfl rfl (by decide +kernel)) (di_seq (de_split (de_var (pv 0)) de_str)) (blkOk_by (own := [("_law_part", 2)]) (N := N_q_chance) (sc := defScope st_q_chance) (by decide +kernel)) (by decide) (fun _ _ _ _ _ => (dg_one sc_q_chance.nd rfl (.inl rfl))) (fun _ _ _ _ _ => ts_nil) (fun _ _ _ _ _ => (de_has H_q_figures gd (hr.mono (by decide)) (by rfl) (da_cons (de_var (pv 2)) da_nil)))) (dss_frz 1 (dss_cons (ds_if (dt_w (dw_or (dt_in de_non (de_var (pv 1))) (dw_or1 (dt_gt (de_len (by rfl) T.n_len (de_var (pv 1))) de_int)))) (dss_one (ds_ret de_non)) dss_nil) (dss_cons (ds_if (dt_eq hu (de_len (by rfl) T.n_len (de_var (pv 1))) de_int) (dss_one (ds_ret (de_if (dt_lt (de_ix (de_var (pv 1)) de_int (fun _ _ => rfl)) de_int) (de_tup (da_cons (de_ix (de_var (pv 1)) de_int (fun _ _ => rfl)) (da_cons de_int da_nil))) de_non))) dss_nil) (dss_cons (ds_if (dt_w (dw_or (dt_not (dt_chain op_lt intsB_ok op_lt intsB_ok de_int (de_ix (de_var (pv 1)) de_int (fun _ _ => rfl)) (de_ix (de_var (pv 1)) de_int (fun _ _ => rfl)))) (dw_or1 (dt_ne hu (de_has H_q_lowest gd (hr.mono (by decide)) (by rfl) (da_cons (de_ix (de_var (pv 1)) de_int (fun _ _ => rfl)) (da_cons (de_ix (de_var (pv 1)) de_int (fun _ _ => rfl)) da_nil))) (de_tup (da_cons (de_ix (de_var (pv 1)) de_int (fun _ _ => rfl)) (da_cons (de_ix (de_var (pv 1)) de_int (fun _ _ => rfl)) da_nil))))))) (dss_one (ds_ret de_non)) dss_nil) (dss_one (ds_ret (de_tup (da_cons (de_ix (de_var (pv 1)) de_int (fun _ _ => rfl)) (da_cons (de_ix (de_var (pv 1)) de_int (fun _ _ => rfl)) da_nil))))))))))
theorem h_q_is_over (T : Txt K mg)  : Has P w K mg base 1 "_law_is_over" ["_law_number"] F_q_is_over :=
  has_mk (k := 0) T.s_q_is_over sc_q_is_over fun ff cdv A outer s0 H E gd hr => by
    have hu := hr.units
    exact (dss_one (ds_ret (de_gt (de_ix (de_var (pv 0)) de_int (fun _ _ => rfl)) (de_ix (de_var (pv 0)) de_int (fun _ _ => rfl)))))
theorem h_q_read_life (T : Txt K mg) (H_q_lowest : Has P w K mg base 1 "_law_lowest" ["_law_top", "_law_bottom"] F_q_lowest) (H_q_add : Has P w K mg base 2 "_law_add" ["_law_one", "_law_other"] F_q_add) (H_q_by : Has P w K mg base 2 "_law_by" ["_law_one", "_law_other"] F_q_by) (H_q_chance : Has P w K mg base 2 "_law_chance" ["_law_word"] F_q_chance_v2) (H_q_is_over : Has P w K mg base 1 "_law_is_over" ["_law_number"] F_q_is_over) : Has P w K mg base 3 "_law_read_life" ["_law_text"] F_q_read_life :=
  has_mk (k := 2) T.s_q_read_life sc_q_read_life fun ff cdv A outer s0 H E gd hr => by
    have hu := hr.units
    exact (dss_cons (ds_set (i := 1) sc_q_read_life.nd rfl (.inl rfl) (de_split (de_var (pv 0)) de_str)) (dss_frz 1 (dss_cons (ds_if (dt_eq hu (de_ix (de_var (pv 1)) de_int (fun _ _ => rfl)) de_str) (dss_one (ds_ret (de_if (dt_gt (de_len (by rfl) T.n_len (de_var (pv 1))) de_int) de_int (de_lst (da_cons (de_tup (da_cons (de_tup da_nil) (da_cons (de_tup (da_cons de_int (da_cons de_int da_nil))) da_nil))) da_nil))))) dss_nil) (dss_cons (ds_set (i := 2) sc_q_read_life.nd rfl (.inl rfl) (de_lst da_nil)) (dss_cons (ds_set (i := 3) sc_q_read_life.nd rfl (.inl rfl) (de_tup (da_cons de_int (da_cons de_int da_nil)))) (dss_cons (ds_for (T := (.one 4)) PassesOwn.never rfl (di_range1 (by rfl) T.n_range (de_len (by rfl) T.n_len (de_var (pv 1)))) (dg_one sc_q_read_life.nd rfl (.inl rfl)) (dss_cons (ds_if (dt_w (dw_and (dt_eq hu (de_ix (de_var (pv 1)) (de_var (pv 4)) (fun _ _ => rfl)) de_str) (dw_and1 (dt_gt (de_var (pv 4)) de_int)))) (dss_cons (ds_set (i := 5) sc_q_read_life.nd rfl (.inl rfl) (de_if (dt_lt (de_add (de_var (pv 4)) de_int) (de_len (by rfl) T.n_len (de_var (pv 1)))) (de_has H_q_chance gd (hr.mono (by decide)) (by rfl) (da_cons (de_ix (de_var (pv 1)) (de_add (de_var (pv 4)) de_int) (fun _ _ => rfl)) da_nil)) de_non)) (dss_cons (ds_if (dt_w (dw_or (dt_isN (de_var (pv 5))) (dw_or (dt_eq hu (de_ix (de_var (pv 5)) de_int (fun _ _ => rfl)) de_int) (dw_or1 (dt_eq hu (de_var (pv 5)) (de_tup (da_cons de_int (da_cons de_int da_nil)))))))) (dss_one (ds_ret (de_add (de_var (pv 4)) de_int))) dss_nil) (dss_cons (ds_set (i := 6) sc_q_read_life.nd rfl (.inl rfl) (de_has H_q_by gd (hr.mono (by decide)) (by rfl) (da_cons (de_ix (de_var (pv 2)) (de_neg de_int) (fun _ _ => rfl)) (da_cons (de_has H_q_lowest gd (hr.mono (by decide)) (by rfl) (da_cons (de_ix (de_var (pv 5)) de_int (fun _ _ => rfl)) (da_cons (de_sub (de_ix (de_var (pv 5)) de_int (fun _ _ => rfl)) (de_ix (de_var (pv 5)) de_int (fun _ _ => rfl))) da_nil))) da_nil)))) (dss_cons (ds_if (dt_val (de_has H_q_is_over gd (hr.mono (by decide)) (by rfl) (da_cons (de_has H_q_add gd (hr.mono (by decide)) (by rfl) (da_cons (de_var (pv 3)) (da_cons (de_var (pv 6)) da_nil))) da_nil))) (dss_one (ds_ret (de_add (de_var (pv 4)) de_int))) dss_nil) (dss_one (ds_ret (de_if (dt_gt (de_len (by rfl) T.n_len (de_var (pv 1))) (de_add (de_var (pv 4)) de_int)) (de_add (de_var (pv 4)) de_int) (de_lst (da_cons (de_tup (da_cons (de_tuple (by rfl) T.n_tuple (de_var (pv 2))) (da_cons (de_var (pv 5)) da_nil))) da_nil))))))))) dss_nil) (dss_cons (ds_set (i := 7) sc_q_read_life.nd rfl (.inl rfl) (de_has H_q_chance gd (hr.mono (by decide)) (by rfl) (da_cons (de_ix (de_var (pv 1)) (de_var (pv 4)) (fun _ _ => rfl)) da_nil))) (dss_cons (ds_if (dt_w (dw_or (dt_isN (de_var (pv 7))) (dw_or1 (dt_val (de_has H_q_is_over gd (hr.mono (by decide)) (by rfl) (da_cons (de_has H_q_add gd (hr.mono (by decide)) (by rfl) (da_cons (de_var (pv 3)) (da_cons (de_var (pv 7)) da_nil))) da_nil)))))) (dss_one (ds_ret (de_var (pv 4)))) dss_nil) (dss_cons (ds_set (i := 3) sc_q_read_life.nd rfl (.inl rfl) (de_has H_q_add gd (hr.mono (by decide)) (by rfl) (da_cons (de_var (pv 3)) (da_cons (de_var (pv 7)) da_nil)))) (dss_one (ds_app (pv 2) (de_var (pv 7))))))))) (dss_frz 2 (dss_one (ds_ret (de_lst (da_cons (de_tup (da_cons (de_tuple (by rfl) T.n_tuple (de_var (pv 2))) (da_cons (de_tup (da_cons de_int (da_cons de_int da_nil))) da_nil))) da_nil)))))))))))
theorem h_q_signs (T : Txt K mg)  : Has P w K mg base 1 "_law_signs" [] F_q_signs :=
  has_mk (k := 0) T.s_q_signs sc_q_signs fun ff cdv A outer s0 H E gd hr => by
    have hu := hr.units
    exact (dss_cons (ds_set (i := 0) sc_q_signs.nd rfl (.inl rfl) de_str) (dss_one (ds_ret (de_add (de_add (de_add (de_add (de_add (de_add (de_var (pv 0)) de_str) de_str) de_str) de_str) de_str) de_str))))
theorem h_q_signed (T : Txt K mg) (H_q_draw : Has P w K mg base 1 "_law_draw" ["_law_feed_here", "_law_size"] F_q_draw_v3) (H_q_signs : Has P w K mg base 1 "_law_signs" [] F_q_signs) : Has P w K mg base 2 "_law_signed" ["_law_feed_here", "_law_text"] F_q_signed :=
  has_mk (k := 1) T.s_q_signed sc_q_signed fun ff cdv A outer s0 H E gd hr => by
    have hu := hr.units
    exact (dss_cons (ds_set (i := 2) sc_q_signed.nd rfl (.inl rfl) (de_has H_q_draw gd (hr.mono (by decide)) (by rfl) (da_cons (de_var (pv 0)) (da_cons de_int da_nil)))) (dss_cons (ds_set (i := 3) sc_q_signed.nd rfl (.inl rfl) (de_has H_q_draw gd (hr.mono (by decide)) (by rfl) (da_cons (de_var (pv 0)) (da_cons (de_add (de_lenA (by rfl) T.n_len (de_var (pv 1))) de_int) da_nil)))) (dss_cons (ds_set (i := 4) sc_q_signed.nd rfl (.inl rfl) (de_ix (de_has0 H_q_signs gd (hr.mono (by decide)) (by rfl)) (de_has H_q_draw gd (hr.mono (by decide)) (by rfl) (da_cons (de_var (pv 0)) (da_cons (de_lenA (by rfl) T.n_len (de_has0 H_q_signs gd (hr.mono (by decide)) (by rfl))) da_nil))) (fun _ _ => rfl))) (dss_cons (ds_set (i := 5) sc_q_signed.nd rfl (.inl rfl) (de_revS (de_sliceS (de_var (pv 1)) (do_some (de_var (pv 3))) (do_some (de_add (de_var (pv 3)) de_int))))) (dss_cons (ds_set (i := 6) sc_q_signed.nd rfl (.inl rfl) (de_lst (da_cons (de_add (de_add (de_sliceS (de_var (pv 1)) do_none (do_some (de_var (pv 3)))) (de_var (pv 4))) (de_sliceS (de_var (pv 1)) (do_some (de_var (pv 3))) do_none)) (da_cons (de_add (de_add (de_sliceS (de_var (pv 1)) do_none (do_some (de_var (pv 3)))) (de_var (pv 4))) (de_sliceS (de_var (pv 1)) (do_some (de_add (de_var (pv 3)) de_int)) do_none)) (da_cons (de_add (de_sliceS (de_var (pv 1)) do_none (do_some (de_var (pv 3)))) (de_sliceS (de_var (pv 1)) (do_some (de_add (de_var (pv 3)) de_int)) do_none)) da_nil))))) (dss_frz 6 (dss_one (ds_ret (de_ix (de_add (de_var (pv 6)) (de_lst (da_cons (de_add (de_add (de_sliceS (de_var (pv 1)) do_none (do_some (de_var (pv 3)))) (de_var (pv 5))) (de_sliceS (de_var (pv 1)) (do_some (de_add (de_var (pv 3)) de_int)) do_none)) da_nil))) (de_var (pv 2)) (fun _ _ => rfl))))))))))
theorem h_q_worded (T : Txt K mg) (H_q_draw : Has P w K mg base 1 "_law_draw" ["_law_feed_here", "_law_size"] F_q_draw_v3) : Has P w K mg base 2 "_law_worded" ["_law_feed_here", "_law_text"] F_q_worded :=
  has_mk (k := 1) T.s_q_worded sc_q_worded fun ff cdv A outer s0 H E gd hr => by
    have hu := hr.units
    exact (dss_cons (ds_set (i := 2) sc_q_worded.nd rfl (.inl rfl) (de_split (de_var (pv 1)) de_str)) (dss_frz 2 (dss_cons (ds_set (i := 3) sc_q_worded.nd rfl (.inl rfl) (de_has H_q_draw gd (hr.mono (by decide)) (by rfl) (da_cons (de_var (pv 0)) (da_cons de_int da_nil)))) (dss_cons (ds_set (i := 4) sc_q_worded.nd rfl (.inl rfl) (de_has H_q_draw gd (hr.mono (by decide)) (by rfl) (da_cons (de_var (pv 0)) (da_cons (de_add (de_len (by rfl) T.n_len (de_var (pv 2))) de_int) da_nil)))) (dss_cons (ds_set (i := 5) sc_q_worded.nd rfl (.inl rfl) (de_lst (da_cons de_str (da_cons de_str (da_cons de_str (da_cons de_str (da_cons de_str (da_cons de_str (da_cons de_str (da_cons de_str (da_cons de_str (da_cons de_str (da_cons de_str (da_cons de_str (da_cons de_str (da_cons de_str (da_cons de_str (da_cons de_str (da_cons de_str da_nil))))))))))))))))))) (dss_frz 5 (dss_cons (ds_set (i := 5) sc_q_worded.nd rfl (.inl rfl) (de_add (de_var (pv 5)) (de_lst (da_cons de_str (da_cons de_str (da_cons de_str (da_cons de_str (da_cons de_str (da_cons de_str (da_cons de_str (da_cons de_str (da_cons de_str da_nil)))))))))))) (dss_frz 5 (dss_cons (ds_set (i := 6) sc_q_worded.nd rfl (.inl rfl) (de_ix (de_var (pv 5)) (de_has H_q_draw gd (hr.mono (by decide)) (by rfl) (da_cons (de_var (pv 0)) (da_cons de_int da_nil))) (fun _ _ => rfl))) (dss_one (ds_ret (de_join de_str (de_add (de_add (de_slice (de_var (pv 2)) do_none (do_some (de_var (pv 4)))) (de_ix (de_lst (da_cons (de_lst da_nil) (da_cons (de_lst (da_cons (de_var (pv 6)) da_nil)) (da_cons (de_mul (de_slice (de_var (pv 2)) (do_some (de_var (pv 4))) (do_some (de_add (de_var (pv 4)) de_int))) de_int) (da_cons (de_lst (da_cons (de_var (pv 6)) da_nil)) da_nil))))) (de_var (pv 3)) (fun _ _ => rfl))) (de_slice (de_var (pv 2)) (do_some (de_add (de_var (pv 4)) (de_int1 (by rfl) T.n_int (de_ne hu (de_var (pv 3)) de_int)))) do_none))))))))))))))
theorem h_common (T : Txt K mg)  : Has P w K mg base 1 "common" ["one", "other"] F_common :=
  has_mk (k := 0) T.s_common sc_common fun ff cdv A outer s0 H E gd hr => by
    have hu := hr.units
    exact (dss_cons (ds_while PassesOwn.never (dt_ne hu (de_var (pv 1)) de_int) (dss_one (ds_par (i := 0) (j := 1) rfl sc_common.nd rfl rfl (by decide) rfl rfl (da_cons (de_var (pv 1)) (da_cons (de_mod (de_var (pv 0)) (de_var (pv 1))) da_nil)) (by rfl)))) (dss_one (ds_ret (de_var (pv 0)))))
theorem h_ratio (T : Txt K mg) (H_common : Has P w K mg base 1 "common" ["one", "other"] F_common) : Has P w K mg base 2 "ratio" ["top", "bottom"] F_ratio :=
  has_mk (k := 1) T.s_ratio sc_ratio fun ff cdv A outer s0 H E gd hr => by
    have hu := hr.units
    exact (dss_cons (ds_if (dt_eq hu (de_var (pv 1)) de_int) (dss_one ds_no) dss_nil) (dss_cons (ds_set (i := 2) sc_ratio.nd rfl (.inl rfl) (de_if (dt_lt (de_var (pv 1)) de_int) (de_neg de_int) de_int)) (dss_cons (ds_set (i := 3) sc_ratio.nd rfl (.inl rfl) (de_has H_common gd (hr.mono (by decide)) (by rfl) (da_cons (de_abs (by rfl) T.n_abs (de_var (pv 0))) (da_cons (de_abs (by rfl) T.n_abs (de_var (pv 1))) da_nil)))) (dss_one (ds_ret (de_tup (da_cons (de_fdiv (de_mul (de_var (pv 2)) (de_var (pv 0))) (de_var (pv 3))) (da_cons (de_fdiv (de_mul (de_var (pv 2)) (de_var (pv 1))) (de_var (pv 3))) da_nil))))))))
theorem h_plus (T : Txt K mg) (H_ratio : Has P w K mg base 2 "ratio" ["top", "bottom"] F_ratio) : Has P w K mg base 3 "plus" ["one", "other"] F_plus :=
  has_mk (k := 2) T.s_plus sc_plus fun ff cdv A outer s0 H E gd hr => by
    have hu := hr.units
    exact (dss_one (ds_ret (de_has H_ratio gd (hr.mono (by decide)) (by rfl) (da_cons (de_add (de_mul (de_ix (de_var (pv 0)) de_int (fun _ _ => rfl)) (de_ix (de_var (pv 1)) de_int (fun _ _ => rfl))) (de_mul (de_ix (de_var (pv 1)) de_int (fun _ _ => rfl)) (de_ix (de_var (pv 0)) de_int (fun _ _ => rfl)))) (da_cons (de_mul (de_ix (de_var (pv 0)) de_int (fun _ _ => rfl)) (de_ix (de_var (pv 1)) de_int (fun _ _ => rfl))) da_nil)))))
theorem h_is_below (T : Txt K mg)  : Has P w K mg base 1 "is_below" ["one", "other"] F_is_below :=
  has_mk (k := 0) T.s_is_below sc_is_below fun ff cdv A outer s0 H E gd hr => by
    have hu := hr.units
    exact (dss_one (ds_ret (de_lt (de_mul (de_ix (de_var (pv 0)) de_int (fun _ _ => rfl)) (de_ix (de_var (pv 1)) de_int (fun _ _ => rfl))) (de_mul (de_ix (de_var (pv 1)) de_int (fun _ _ => rfl)) (de_ix (de_var (pv 0)) de_int (fun _ _ => rfl))))))
theorem h_is_whole (T : Txt K mg)  : Has P w K mg base 1 "is_whole" ["thing"] F_is_whole :=
  has_mk (k := 0) T.s_is_whole sc_is_whole fun ff cdv A outer s0 H E gd hr => by
    have hu := hr.units
    exact (dss_one (ds_ret (de_and (de_isi "int" (by decide) (by rfl) T.n_isinstance (by rfl) T.n_int (by decide +kernel) (de_var (pv 0))) (de_one (de_not (de_isi "bool" (by decide) (by rfl) T.n_isinstance (by rfl) T.n_bool (by decide +kernel) (de_var (pv 0))))))))
theorem h_is_ratio (T : Txt K mg) (H_is_whole : Has P w K mg base 1 "is_whole" ["thing"] F_is_whole) (H_common : Has P w K mg base 1 "common" ["one", "other"] F_common) : Has P w K mg base 2 "is_ratio" ["thing"] F_is_ratio :=
  has_mk (k := 1) T.s_is_ratio sc_is_ratio fun ff cdv A outer s0 H E gd hr => by
    have hu := hr.units
    exact (dss_cons (ds_if (dt_w (dw_or (dt_not (dt_val (de_isi "tuple" (by decide) (by rfl) T.n_isinstance (by rfl) T.n_tuple (by decide +kernel) (de_var (pv 0))))) (dw_or (dt_ne hu (de_len (by rfl) T.n_len (de_var (pv 0))) de_int) (dw_or (dt_not (dt_val (de_has H_is_whole gd (hr.mono (by decide)) (by rfl) (da_cons (de_ix (de_var (pv 0)) de_int (fun _ _ => rfl)) da_nil)))) (dw_or1 (dt_not (dt_val (de_has H_is_whole gd (hr.mono (by decide)) (by rfl) (da_cons (de_ix (de_var (pv 0)) de_int (fun _ _ => rfl)) da_nil))))))))) (dss_one (ds_ret de_bl)) dss_nil) (dss_one (ds_ret (de_and (de_ge (de_ix (de_var (pv 0)) de_int (fun _ _ => rfl)) de_int) (de_one (de_eq hu (de_has H_common gd (hr.mono (by decide)) (by rfl) (da_cons (de_abs (by rfl) T.n_abs (de_ix (de_var (pv 0)) de_int (fun _ _ => rfl))) (da_cons (de_ix (de_var (pv 0)) de_int (fun _ _ => rfl)) da_nil))) de_int))))))
theorem h_number_in (T : Txt K mg)  : Has P w K mg base 1 "number_in" ["word"] F_number_in :=
  has_mk (k := 0) T.s_number_in sc_number_in fun ff cdv A outer s0 H E gd hr => by
    have hu := hr.units
    exact (dss_cons (ds_if (dt_w (dw_or (dt_not (dt_chain op_le intsB_ok op_le intsB_ok de_int (de_lenA (by rfl) T.n_len (de_var (pv 0))) (c_MOST_FIGURES T rfl rfl (by rfl)))) (dw_or1 (dt_not (dt_val (de_all rfl (by rfl) T.n_all (de_lc (own := [("sign", 1)]) (T := (.one 1)) rfl sc_number_in.nd (di_str (de_var (pv 0))) (blkOk_by (own := [("sign", 1)]) (N := N_number_in) (sc := defScope st_number_in) (by decide +kernel)) (by decide) (fun _ _ _ _ _ => (dg_one sc_number_in.nd rfl (.inl rfl))) (fun _ _ _ _ _ => ts_nil) (fun _ _ _ _ _ => (de_inSg (de_var (pv 1)) (c_FIGURES T rfl rfl (by rfl))))))))))) (dss_one (ds_ret de_non)) dss_nil) (dss_cons (ds_if (dt_w (dw_and (dt_eq hu (de_ix (de_var (pv 0)) de_int (fun _ _ => rfl)) de_str) (dw_and1 (dt_ne hu (de_var (pv 0)) de_str)))) (dss_one (ds_ret de_non)) dss_nil) (dss_one (ds_ret (de_intS (by rfl) T.n_int (de_var (pv 0)))))))
theorem h_chance_in (T : Txt K mg) (H_is_ratio : Has P w K mg base 2 "is_ratio" ["thing"] F_is_ratio) (H_number_in : Has P w K mg base 1 "number_in" ["word"] F_number_in) : Has P w K mg base 3 "chance_in" ["word"] F_chance_in :=
  has_mk (k := 2) T.s_chance_in sc_chance_in fun ff cdv A outer s0 H E gd hr => by
    have hu := hr.units
    exact (dss_cons (ds_setLc (i := 1) (own := [("part", 4)]) (T := (.one 4)) rfl sc_chance_in.nd rfl rfl (sw_true rfl rfl rfl (by decide +kernel)) (di_seq (de_split (de_var (pv 0)) de_str)) (blkOk_by (own := [("part", 4)]) (N := N_chance_in) (sc := defScope st_chance_in) (by decide +kernel)) (by decide) (fun _ _ _ _ _ => (dg_one sc_chance_in.nd rfl (.inl rfl))) (fun _ _ _ _ _ => ts_nil) (fun _ _ _ _ _ => (de_has H_number_in gd (hr.mono (by decide)) (by rfl) (da_cons (de_var (pv 4)) da_nil)))) (dss_frz 1 (dss_cons (ds_if (dt_w (dw_or (dt_in de_non (de_var (pv 1))) (dw_or1 (dt_gt (de_len (by rfl) T.n_len (de_var (pv 1))) de_int)))) (dss_one (ds_ret de_non)) dss_nil) (dss_cons (ds_if (dt_eq hu (de_len (by rfl) T.n_len (de_var (pv 1))) de_int) (dss_one (ds_ret (de_if (dt_lt (de_ix (de_var (pv 1)) de_int (fun _ _ => rfl)) de_int) (de_tup (da_cons (de_ix (de_var (pv 1)) de_int (fun _ _ => rfl)) (da_cons de_int da_nil))) de_non))) dss_nil) (dss_cons (ds_unl (l := [2, 3]) (de_var (pv 1)) (dg_unl (l := [2, 3]) rfl (dga_cons (pg_name (i := 2) sc_chance_in.nd rfl (.inl rfl)) (dga_cons (pg_name (i := 3) sc_chance_in.nd rfl (.inl rfl)) dga_nil)))) (dss_one (ds_ret (de_if (dt_w (dw_and (dt_chain op_lt intsB_ok op_lt intsB_ok de_int (de_var (pv 2)) (de_var (pv 3))) (dw_and1 (dt_val (de_has H_is_ratio gd (hr.mono (by decide)) (by rfl) (da_cons (de_tup (da_cons (de_var (pv 2)) (da_cons (de_var (pv 3)) da_nil))) da_nil)))))) (de_tup (da_cons (de_var (pv 2)) (da_cons (de_var (pv 3)) da_nil))) de_non))))))))
theorem h_is_chance (T : Txt K mg) (H_is_ratio : Has P w K mg base 2 "is_ratio" ["thing"] F_is_ratio) : Has P w K mg base 3 "is_chance" ["thing"] F_is_chance :=
  has_mk (k := 2) T.s_is_chance sc_is_chance fun ff cdv A outer s0 H E gd hr => by
    have hu := hr.units
    exact (dss_one (ds_ret (de_and (de_has H_is_ratio gd (hr.mono (by decide)) (by rfl) (da_cons (de_var (pv 0)) da_nil)) (de_one (de_chain op_le intsB_ok op_le intsB_ok de_int (de_ix (de_var (pv 0)) de_int (fun _ _ => rfl)) (de_ix (de_var (pv 0)) de_int (fun _ _ => rfl)))))))
theorem h_minus (T : Txt K mg) (H_ratio : Has P w K mg base 2 "ratio" ["top", "bottom"] F_ratio) : Has P w K mg base 3 "minus" ["one", "other"] F_minus :=
  has_mk (k := 2) T.s_minus sc_minus fun ff cdv A outer s0 H E gd hr => by
    have hu := hr.units
    exact (dss_one (ds_ret (de_has H_ratio gd (hr.mono (by decide)) (by rfl) (da_cons (de_sub (de_mul (de_ix (de_var (pv 0)) de_int (fun _ _ => rfl)) (de_ix (de_var (pv 1)) de_int (fun _ _ => rfl))) (de_mul (de_ix (de_var (pv 1)) de_int (fun _ _ => rfl)) (de_ix (de_var (pv 0)) de_int (fun _ _ => rfl)))) (da_cons (de_mul (de_ix (de_var (pv 0)) de_int (fun _ _ => rfl)) (de_ix (de_var (pv 1)) de_int (fun _ _ => rfl))) da_nil)))))
theorem h_times (T : Txt K mg) (H_ratio : Has P w K mg base 2 "ratio" ["top", "bottom"] F_ratio) : Has P w K mg base 3 "times" ["one", "other"] F_times :=
  has_mk (k := 2) T.s_times sc_times fun ff cdv A outer s0 H E gd hr => by
    have hu := hr.units
    exact (dss_one (ds_ret (de_has H_ratio gd (hr.mono (by decide)) (by rfl) (da_cons (de_mul (de_ix (de_var (pv 0)) de_int (fun _ _ => rfl)) (de_ix (de_var (pv 1)) de_int (fun _ _ => rfl))) (da_cons (de_mul (de_ix (de_var (pv 0)) de_int (fun _ _ => rfl)) (de_ix (de_var (pv 1)) de_int (fun _ _ => rfl))) da_nil)))))
theorem h_over (T : Txt K mg) (H_ratio : Has P w K mg base 2 "ratio" ["top", "bottom"] F_ratio) : Has P w K mg base 3 "over" ["one", "other"] F_over :=
  has_mk (k := 2) T.s_over sc_over fun ff cdv A outer s0 H E gd hr => by
    have hu := hr.units
    exact (dss_one (ds_ret (de_has H_ratio gd (hr.mono (by decide)) (by rfl) (da_cons (de_mul (de_ix (de_var (pv 0)) de_int (fun _ _ => rfl)) (de_ix (de_var (pv 1)) de_int (fun _ _ => rfl))) (da_cons (de_mul (de_ix (de_var (pv 0)) de_int (fun _ _ => rfl)) (de_ix (de_var (pv 1)) de_int (fun _ _ => rfl))) da_nil)))))
theorem h_summed (T : Txt K mg) (H_plus : Has P w K mg base 3 "plus" ["one", "other"] F_plus) : Has P w K mg base 4 "summed" ["some"] F_summed :=
  has_mk (k := 3) T.s_summed sc_summed fun ff cdv A outer s0 H E gd hr => by
    have hu := hr.units
    exact (dss_cons (ds_set (i := 1) sc_summed.nd rfl (.inl rfl) (c_NOUGHT_ratios T rfl rfl (by rfl))) (dss_cons (ds_for (T := (.one 2)) PassesOwn.never rfl (di_seq (de_var (pv 0))) (dg_one sc_summed.nd rfl (.inl rfl)) (dss_one (ds_set (i := 1) sc_summed.nd rfl (.inl rfl) (de_has H_plus gd (hr.mono (by decide)) (by rfl) (da_cons (de_var (pv 1)) (da_cons (de_var (pv 2)) da_nil)))))) (dss_one (ds_ret (de_var (pv 1))))))
theorem h_chances_added (T : Txt K mg) (H_plus : Has P w K mg base 3 "plus" ["one", "other"] F_plus) (H_minus : Has P w K mg base 3 "minus" ["one", "other"] F_minus) (H_times : Has P w K mg base 3 "times" ["one", "other"] F_times) (H_over : Has P w K mg base 3 "over" ["one", "other"] F_over) (H_summed : Has P w K mg base 4 "summed" ["some"] F_summed) : Has P w K mg base 5 "chances_added" ["life"] F_chances_added :=
  has_mk (k := 4) T.s_chances_added sc_chances_added fun ff cdv A outer s0 H E gd hr => by
    have hu := hr.units
    exact (dss_cons (ds_asg (T := (.many [1, 2])) (de_var (pv 0)) (dg_many rfl (dga_cons (pg_name (i := 1) sc_chances_added.nd rfl (.inl rfl)) (dga_cons (pg_name (i := 2) sc_chances_added.nd rfl (.inl rfl)) dga_nil)))) (dss_cons (ds_set (i := 3) sc_chances_added.nd rfl (.inl rfl) (de_has H_summed gd (hr.mono (by decide)) (by rfl) (da_cons (de_var (pv 1)) da_nil))) (dss_cons (ds_if (dt_eq hu (de_var (pv 2)) (c_NOUGHT_ratios T rfl rfl (by rfl))) (dss_one (ds_ret (de_var (pv 3)))) dss_nil) (dss_one (ds_ret (de_has H_plus gd (hr.mono (by decide)) (by rfl) (da_cons (de_var (pv 3)) (da_cons (de_has H_over gd (hr.mono (by decide)) (by rfl) (da_cons (de_has H_times gd (hr.mono (by decide)) (by rfl) (da_cons (de_ix (de_var (pv 1)) (de_neg de_int) (fun _ _ => rfl)) (da_cons (de_var (pv 2)) da_nil))) (da_cons (de_has H_minus gd (hr.mono (by decide)) (by rfl) (da_cons (c_ONE_ratios T rfl rfl (by rfl)) (da_cons (de_var (pv 2)) da_nil))) da_nil))) da_nil))))))))
theorem h_is_life (T : Txt K mg) (H_is_below : Has P w K mg base 1 "is_below" ["one", "other"] F_is_below) (H_is_chance : Has P w K mg base 3 "is_chance" ["thing"] F_is_chance) (H_chances_added : Has P w K mg base 5 "chances_added" ["life"] F_chances_added) : Has P w K mg base 6 "is_life" ["thing"] F_is_life :=
  has_mk (k := 5) T.s_is_life sc_is_life fun ff cdv A outer s0 H E gd hr => by
    have hu := hr.units
    exact (dss_cons (ds_if (dt_w (dw_or (dt_not (dt_val (de_isi "tuple" (by decide) (by rfl) T.n_isinstance (by rfl) T.n_tuple (by decide +kernel) (de_var (pv 0))))) (dw_or (dt_ne hu (de_len (by rfl) T.n_len (de_var (pv 0))) de_int) (dw_or1 (dt_not (dt_val (de_isi "tuple" (by decide) (by rfl) T.n_isinstance (by rfl) T.n_tuple (by decide +kernel) (de_ix (de_var (pv 0)) de_int (fun _ _ => rfl))))))))) (dss_one (ds_ret de_bl)) dss_nil) (dss_cons (ds_if (dt_w (dw_or (dt_not (dt_val (de_has H_is_chance gd (hr.mono (by decide)) (by rfl) (da_cons (de_ix (de_var (pv 0)) de_int (fun _ _ => rfl)) da_nil)))) (dw_or (dt_eq hu (de_ix (de_var (pv 0)) de_int (fun _ _ => rfl)) (c_ONE_ratios T rfl rfl (by rfl))) (dw_or1 (dt_not (dt_val (de_all rfl (by rfl) T.n_all (de_lc (own := [("one", 1)]) (T := (.one 1)) rfl sc_is_life.nd (di_seq (de_ix (de_var (pv 0)) de_int (fun _ _ => rfl))) (blkOk_by (own := [("one", 1)]) (N := N_is_life) (sc := defScope st_is_life) (by decide +kernel)) (by decide) (fun _ _ _ _ _ => (dg_one sc_is_life.nd rfl (.inl rfl))) (fun _ _ _ _ _ => ts_nil) (fun _ _ _ _ _ => (de_has H_is_chance gd (hr.mono (by decide)) (by rfl) (da_cons (de_var (pv 1)) da_nil))))))))))) (dss_one (ds_ret de_bl)) dss_nil) (dss_cons (ds_if (dt_eq hu (de_len (by rfl) T.n_len (de_ix (de_var (pv 0)) de_int (fun _ _ => rfl))) de_int) (dss_one (ds_ret (de_eq hu (de_ix (de_var (pv 0)) de_int (fun _ _ => rfl)) (c_NOUGHT_ratios T rfl rfl (by rfl))))) dss_nil) (dss_one (ds_ret (de_not (de_has H_is_below gd (hr.mono (by decide)) (by rfl) (da_cons (c_ONE_ratios T rfl rfl (by rfl)) (da_cons (de_has H_chances_added gd (hr.mono (by decide)) (by rfl) (da_cons (de_var (pv 0)) da_nil)) da_nil)))))))))
theorem h_read_step_X (T : Txt K mg) (H_is_life : Has P w K mg base 6 "is_life" ["thing"] F_is_life) (H_chance_in : Has P w K mg base 3 "chance_in" ["word"] F_chance_in) : HasX P w K mg base 7 "read_step" ["words", "row"] F_read_step_X :=
  has_mkX (k := 6) T.s_read_step_X sc_read_step_X fun ff cdv A outer s0 H E gd hr => by
    have hu := hr.units
    have tk : Takes (cxOf (L2.CX P w) P w K mg base N_read_step_X "read_step" (defScope st_read_step_X) ff cdv A outer s0 H E) (fun cls d _ H => E cls d H) := takes_of rfl rfl rfl rfl
    exact (dss_cons (ds_set (i := 2) sc_read_step_X.nd rfl (.inl rfl) (de_len (by rfl) T.n_len (de_var (pv 1)))) (dss_cons (ds_if (dt_eq hu (de_len (by rfl) T.n_len (de_var (pv 0))) (de_add (de_var (pv 2)) de_int)) (dss_one (ds_raise (i_NoText (P := P) (w := w) (base := base) T) rfl tk (hr.mono (by decide)) (by rfl) (da_cons (de_add (de_var (pv 2)) de_int) da_nil))) dss_nil) (dss_cons (ds_set (i := 3) sc_read_step_X.nd rfl (.inl rfl) (de_has H_chance_in gd (hr.mono (by decide)) (by rfl) (da_cons (de_ix (de_var (pv 0)) (de_add (de_var (pv 2)) de_int) (fun _ _ => rfl)) da_nil))) (dss_cons (ds_if (dt_w (dw_or (dt_isN (de_var (pv 3))) (dw_or (dt_eq hu (de_var (pv 3)) (c_NOUGHT_texts T rfl rfl (by rfl))) (dw_or1 (dt_not (dt_val (de_has H_is_life gd (hr.mono (by decide)) (by rfl) (da_cons (de_tup (da_cons (de_tuple (by rfl) T.n_tuple (de_var (pv 1))) (da_cons (de_var (pv 3)) da_nil))) da_nil)))))))) (dss_one (ds_raise (i_NoText (P := P) (w := w) (base := base) T) rfl tk (hr.mono (by decide)) (by rfl) (da_cons (de_add (de_var (pv 2)) de_int) da_nil))) dss_nil) (dss_cons (ds_if (dt_gt (de_len (by rfl) T.n_len (de_var (pv 0))) (de_add (de_var (pv 2)) de_int)) (dss_one (ds_raise (i_NoText (P := P) (w := w) (base := base) T) rfl tk (hr.mono (by decide)) (by rfl) (da_cons (de_add (de_var (pv 2)) de_int) da_nil))) dss_nil) (dss_one (ds_ret (de_tup (da_cons (de_tuple (by rfl) T.n_tuple (de_var (pv 1))) (da_cons (de_var (pv 3)) da_nil))))))))))
theorem h_read_life_X (T : Txt K mg) (H_plus : Has P w K mg base 3 "plus" ["one", "other"] F_plus) (H_is_below : Has P w K mg base 1 "is_below" ["one", "other"] F_is_below) (H_chance_in : Has P w K mg base 3 "chance_in" ["word"] F_chance_in) (H_read_step_X : HasX P w K mg base 7 "read_step" ["words", "row"] F_read_step_X) : HasX P w K mg base 8 "read_life" ["text"] F_read_life_X :=
  has_mkX (k := 7) T.s_read_life_X sc_read_life_X fun ff cdv A outer s0 H E gd hr => by
    have hu := hr.units
    have tk : Takes (cxOf (L2.CX P w) P w K mg base N_read_life_X "read_life" (defScope st_read_life_X) ff cdv A outer s0 H E) (fun cls d _ H => E cls d H) := takes_of rfl rfl rfl rfl
    exact (dss_cons (ds_set (i := 1) sc_read_life_X.nd rfl (.inl rfl) (de_split (de_var (pv 0)) de_str)) (dss_frz 1 (dss_cons (ds_if (dt_eq hu (de_ix (de_var (pv 1)) de_int (fun _ _ => rfl)) (c_NONE_THERE T rfl rfl (by rfl))) (dss_cons (ds_if (dt_gt (de_len (by rfl) T.n_len (de_var (pv 1))) de_int) (dss_one (ds_raise (i_NoText (P := P) (w := w) (base := base) T) rfl tk (hr.mono (by decide)) (by rfl) (da_cons de_int da_nil))) dss_nil) (dss_one (ds_ret (de_tup (da_cons (de_tup da_nil) (da_cons (c_NOUGHT_texts T rfl rfl (by rfl)) da_nil)))))) dss_nil) (dss_cons (ds_set (i := 2) sc_read_life_X.nd rfl (.inl rfl) (de_lst da_nil)) (dss_cons (ds_set (i := 3) sc_read_life_X.nd rfl (.inl rfl) (c_NOUGHT_texts T rfl rfl (by rfl))) (dss_cons (ds_for (T := (.many [4, 5])) (passes_of rfl) rfl (di_enum (by rfl) T.n_enumerate (de_var (pv 1))) (dg_many rfl (dga_cons (pg_name (i := 4) sc_read_life_X.nd rfl (.inl rfl)) (dga_cons (pg_name (i := 5) sc_read_life_X.nd rfl (.inl rfl)) dga_nil))) (dss_cons (ds_if (dt_w (dw_and (dt_eq hu (de_var (pv 5)) (c_BEHIND T rfl rfl (by rfl))) (dw_and1 (dt_gt (de_var (pv 4)) de_int)))) (dss_frz 2 (dss_one (ds_ret (de_hasX H_read_step_X tk gd (hr.mono (by decide)) (by rfl) (da_cons (de_var (pv 1)) (da_cons (de_var (pv 2)) da_nil)))))) dss_nil) (dss_cons (ds_set (i := 6) sc_read_life_X.nd rfl (.inl rfl) (de_has H_chance_in gd (hr.mono (by decide)) (by rfl) (da_cons (de_var (pv 5)) da_nil))) (dss_cons (ds_if (dt_isN (de_var (pv 6))) (dss_one (ds_raise (i_NoText (P := P) (w := w) (base := base) T) rfl tk (hr.mono (by decide)) (by rfl) (da_cons (de_var (pv 4)) da_nil))) dss_nil) (dss_cons (ds_set (i := 3) sc_read_life_X.nd rfl (.inl rfl) (de_has H_plus gd (hr.mono (by decide)) (by rfl) (da_cons (de_var (pv 3)) (da_cons (de_var (pv 6)) da_nil)))) (dss_cons (ds_if (dt_val (de_has H_is_below gd (hr.mono (by decide)) (by rfl) (da_cons (c_ONE_texts T rfl rfl (by rfl)) (da_cons (de_var (pv 3)) da_nil)))) (dss_one (ds_raise (i_NoText (P := P) (w := w) (base := base) T) rfl tk (hr.mono (by decide)) (by rfl) (da_cons (de_var (pv 4)) da_nil))) dss_nil) (dss_one (ds_app (pv 2) (de_var (pv 6)))))))))) (dss_frz 2 (dss_one (ds_ret (de_tup (da_cons (de_tuple (by rfl) T.n_tuple (de_var (pv 2))) (da_cons (c_NOUGHT_texts T rfl rfl (by rfl)) da_nil))))))))))))
theorem h_q_told (T : Txt K mg) (H_read_life_X : HasX P w K mg base 8 "read_life" ["text"] F_read_life_X) : Has P w K mg base 9 "_law_told" ["_law_text"] F_q_told_v6 :=
  has_mk (k := 8) T.s_q_told sc_q_told fun ff cdv A outer s0 H E gd hr => by
    have hu := hr.units
    obtain ⟨c_FreshError, e_FreshError⟩ := errT_p T.p_FreshError
    obtain ⟨c_NoText, e_NoText⟩ := errT_p T.p_NoText
    have e_ValueError := T.p_ValueError
    exact (dss_cons (ds_set (i := 1) sc_q_told.nd rfl (.inl rfl) de_str) (dss_cons (ds_tryS (i := 1) (j := 2) rfl rfl sc_q_told.nd rfl (.inl rfl) rfl rfl (by rfl) e_FreshError (names_cons T.r_NoText.nm names_nil) (fun W pn xe tk2 po2 => (de_lst (da_cons (de_hasX H_read_life_X tk2 gd (hr.mono (by decide)) (by rfl) (da_cons (de_var (pv 0)) da_nil)) da_nil))) (fun a pn => (dss_cons (ds_set (i := 3) sc_q_told.nd rfl (.inl rfl) (de_isEs T.e_ok (cls_cons T.p_NoAge (by rfl) (cls_cons T.p_NoBeat (by rfl) (cls_cons T.p_NoLines (by rfl) (cls_cons T.p_NoName (by rfl) (cls_cons T.p_NoPaper (by rfl) (cls_cons T.p_NoRatio (by rfl) (cls_cons T.p_NoRow (by rfl) (cls_cons T.p_TooMany (by rfl) cls_nil)))))))) (by decide) (by rfl) T.n_isinstance (de_var (pv 2)) (fun h => pe_tup h))) (dss_one (ds_if (dt_w (dw_and (dt_val (de_isE T.e_ok e_NoText (.inl ⟨_, rfl, rfl⟩) (by rfl) T.n_isinstance (by rfl) (de_var (pv 2)))) (dw_and (dt_val (de_isE T.e_ok e_ValueError (.inr ⟨_, rfl, rfl⟩) (by rfl) T.n_isinstance (by rfl) (de_var (pv 2)))) (dw_and1 (dt_not (dt_val (de_var (pv 3)))))))) (dss_one (ds_set (i := 1) sc_q_told.nd rfl (.inl rfl) (de_fld T.e_ok (de_var (pv 2))))) dss_nil))))) (dss_one (ds_ret (de_var (pv 1))))))
theorem h_q_wide_texts (T : Txt K mg) (H_q_draw : Has P w K mg base 1 "_law_draw" ["_law_feed_here", "_law_size"] F_q_draw_v3) (H_q_worded : Has P w K mg base 2 "_law_worded" ["_law_feed_here", "_law_text"] F_q_worded) : Has P w K mg base 3 "_law_wide_texts" ["_law_feed_here"] F_q_wide_texts :=
  has_mk (k := 2) T.s_q_wide_texts sc_q_wide_texts fun ff cdv A outer s0 H E gd hr => by
    have hu := hr.units
    exact (dss_cons (ds_set (i := 1) sc_q_wide_texts.nd rfl (.inl rfl) (de_add (de_mul (de_lst (da_cons de_str da_nil)) (de_add de_int (de_has H_q_draw gd (hr.mono (by decide)) (by rfl) (da_cons (de_var (pv 0)) (da_cons de_int da_nil))))) (de_lst (da_cons (de_ix (de_lst (da_cons de_str (da_cons de_str (da_cons de_str (da_cons de_str da_nil))))) (de_has H_q_draw gd (hr.mono (by decide)) (by rfl) (da_cons (de_var (pv 0)) (da_cons de_int da_nil))) (fun _ _ => rfl)) (da_cons de_str da_nil))))) (dss_frz 1 (dss_cons (ds_set (i := 2) sc_q_wide_texts.nd rfl (.inl rfl) (de_join de_str (de_add (de_var (pv 1)) (de_lst (da_cons (de_ix (de_lst (da_cons de_str (da_cons de_str (da_cons de_str (da_cons de_str da_nil))))) (de_has H_q_draw gd (hr.mono (by decide)) (by rfl) (da_cons (de_var (pv 0)) (da_cons de_int da_nil))) (fun _ _ => rfl)) da_nil))))) (dss_one (ds_ret (de_lst (da_cons (de_var (pv 2)) (da_cons (de_has H_q_worded gd (hr.mono (by decide)) (by rfl) (da_cons (de_var (pv 0)) (da_cons (de_var (pv 2)) da_nil))) (da_cons (de_has H_q_worded gd (hr.mono (by decide)) (by rfl) (da_cons (de_var (pv 0)) (da_cons (de_var (pv 2)) da_nil))) (da_cons (de_var (pv 2)) da_nil))))))))))
theorem feed_ok {f : Addr} {fd : FuncData} (F : Fun K "_law_feed" "_law_feed" st_q_feed f fd) (ml : mg "list" = none) : FnG P w K mg base CX0 1 f fd ["_law_script"] (spFeed2 K) :=
  fnG_ok F sc_q_feed (fun vs H Q E h => by obtain ⟨a, ns, rfl, _⟩ := h; rfl) fun cdv A outer s0 H vs Q E gd hr h =>
    ⟨_, pss_one (ps_ret (pe_disp (pps_cons pe_str (pe_callTy call_list_of (by rfl) ml (by decide +kernel) (pa_cons (pe_slice sl_list (pv 0) po_none (po_some pe_int)) pa_nil)) (pps_cons pe_str pe_int (pps_cons pe_str pe_int (pps_cons pe_str pe_int pps_nil)))) rfl rfl (by decide) (by decide))), feed_made2 h⟩
theorem later_ok (T : Txt K mg) : HasL P w K mg base 2 "_law_later" := by
  obtain ⟨f, fd, hm, F, hb⟩ := T.s_q_later.src
  refine ⟨f, fd, hm, F.kp, hb, fnG_ok F sc_q_later (fun vs H Q E h => by obtain ⟨a, ns, rfl, _⟩ := h; rfl) fun cdv A outer s0 H vs Q E gd hr h => ?_⟩
  obtain ⟨fF, fdF, mF, FF, bF⟩ := T.s_q_feed.src
  have GF : FnG P w K mg base CX0 1 fF fdF ["_law_script"] (spFeed2 K) := feed_ok FF T.n_list
  have hu := hr.units
  exact ⟨_, pss_cons (ps_set (i := 1) sc_q_later.nd rfl (.inl rfl) (callG GF gd (hr.mono (by decide)) (by rfl) mF FF.kp bF pass0 (pa_cons (pe_revL (pe_slice sl_list (pv 0) po_none (po_some pe_int))) pa_nil))) (pss_cons (ps_dput (hu1 hu) (pv 1) pe_str pe_int rfl) (pss_one (ps_ret (pv 1)))), later_made h⟩
theorem ok_law (T : Txt K mg) (H_q_draw : Has P w K mg base 1 "_law_draw" ["_law_feed_here", "_law_size"] F_q_draw_v3) (H_q_life : Has P w K mg base 3 "_law_life" ["_law_feed_here"] F_q_life_v2) (H_q_life_text : Has P w K mg base 2 "_law_life_text" ["_law_life_here"] F_q_life_text) (H_q_read_life : Has P w K mg base 3 "_law_read_life" ["_law_text"] F_q_read_life) (H_q_signed : Has P w K mg base 2 "_law_signed" ["_law_feed_here", "_law_text"] F_q_signed) (H_q_worded : Has P w K mg base 2 "_law_worded" ["_law_feed_here", "_law_text"] F_q_worded) (H_q_told : Has P w K mg base 9 "_law_told" ["_law_text"] F_q_told_v6) (H_q_wide_texts : Has P w K mg base 3 "_law_wide_texts" ["_law_feed_here"] F_q_wide_texts) {f : Addr} {fd : FuncData} (F : Fun K "law" "law" st_law f fd) (fin : ∀ ns : List Int, ns.length ≤ 63 → ∃ f, S_law (.scr ns :: .feed :: List.replicate 8 .emp) (feed0 ns) = .ok (.rt (.dat (.bool true))) f) : FnG P w K mg base CX0 10 f fd ["_law_script"] (spLaw K) := by
  refine fnG_ok F sc_law (fun vs H Q E h => by obtain ⟨a, ns, rfl, _⟩ := h; rfl) fun cdv A outer s0 H vs Q E gd hr h => ?_
  obtain ⟨a, ns, rfl, hS, hl, qq⟩ := h
  obtain ⟨fF, fdF, mF, FF, bF⟩ := T.s_q_feed.src
  have GF : FnG P w K mg base CX0 1 fF fdF ["_law_script"] (spFeed2 K) := feed_ok FF T.n_list
  have HL_q_later := later_ok (P := P) (w := w) (base := base) T
  have hu := hr.units
  have rest : DSs (cxOf CX0 P w K mg base N_law "law" (defScope st_law) f cdv A outer s0 H E).nox (fun _ _ _ => False) (defBody st_law).tail S_law := (dss_cons (ds_set (i := 2) sc_law.nd rfl (.inl rfl) (de_lst (da_cons de_str (da_cons de_str (da_cons de_str (da_cons de_str (da_cons de_str (da_cons de_str (da_cons de_str (da_cons de_str (da_cons de_str (da_cons de_str (da_cons de_str (da_cons de_str (da_cons de_str (da_cons de_str da_nil)))))))))))))))) (dss_frz 2 (dss_cons (ds_set (i := 2) sc_law.nd rfl (.inl rfl) (de_add (de_var (pv 2)) (de_lst (da_cons de_str (da_cons de_str (da_cons de_str (da_cons de_str (da_cons de_str (da_cons de_str (da_cons de_str da_nil)))))))))) (dss_frz 2 (dss_cons (ds_set (i := 2) sc_law.nd rfl (.inl rfl) (de_add (de_var (pv 2)) (de_lst (da_cons de_str (da_cons de_str (da_cons de_str (da_cons de_str (da_cons de_str (da_cons de_str (da_cons de_str (da_cons de_str (da_cons de_str da_nil)))))))))))) (dss_frz 2 (dss_cons (ds_for (T := (.one 3)) PassesOwn.never rfl (di_range1 (by rfl) T.n_range de_int) (dg_one sc_law.nd rfl (.inl rfl)) (dss_cons (ds_set (i := 4) sc_law.nd rfl (.inl rfl) (de_has H_q_life_text gd (hr.mono (by decide)) (by rfl) (da_cons (de_has H_q_life gd (hr.mono (by decide)) (by rfl) (da_cons (de_var (pv 1)) da_nil)) da_nil))) (dss_cons (ds_for (T := (.one 5)) PassesOwn.never rfl (di_range1 (by rfl) T.n_range de_int) (dg_one sc_law.nd rfl (.inl rfl)) (dss_cons (ds_set (i := 6) sc_law.nd rfl (.inl rfl) (de_pick H_q_worded H_q_signed gd (hr.mono (by decide)) (hr.mono (by decide)) (by rfl) (by rfl) (de_has H_q_draw gd (hr.mono (by decide)) (by rfl) (da_cons (de_var (pv 1)) (da_cons de_int da_nil))) (fun _ _ => rfl) (da_cons (de_var (pv 1)) (da_cons (de_var (pv 4)) da_nil)))) (dss_cons (ds_if (dt_eq hu (de_mod (de_var (pv 5)) de_int) de_int) (dss_one (ds_set (i := 6) sc_law.nd rfl (.inl rfl) (de_pick H_q_worded H_q_signed gd (hr.mono (by decide)) (hr.mono (by decide)) (by rfl) (by rfl) (de_has H_q_draw gd (hr.mono (by decide)) (by rfl) (da_cons (de_var (pv 1)) (da_cons de_int da_nil))) (fun _ _ => rfl) (da_cons (de_var (pv 1)) (da_cons (de_var (pv 6)) da_nil))))) dss_nil) (dss_cons (ds_set (i := 2) sc_law.nd rfl (.inl rfl) (de_add (de_var (pv 2)) (de_lst (da_cons (de_var (pv 6)) (da_cons (de_var (pv 4)) da_nil))))) (dss_frz 2 dss_nil))))) (dss_frz 2 dss_nil)))) (dss_frz 2 (dss_cons (ds_set (i := 7) sc_law.nd rfl (.inl rfl) (de_add (de_mul (de_lst (da_cons de_str da_nil)) de_int) (de_lst (da_cons de_str da_nil)))) (dss_cons (ds_put (i := 7) (pv 7) (de_has H_q_draw gd (hr.mono (by decide)) (by rfl) (da_cons (de_var (pv 1)) (da_cons de_int da_nil))) (de_ix (de_lst (da_cons de_str (da_cons de_str (da_cons de_str (da_cons de_str da_nil))))) (de_has H_q_draw gd (hr.mono (by decide)) (by rfl) (da_cons (de_var (pv 1)) (da_cons de_int da_nil))) (fun _ _ => rfl))) (dss_frz 7 (dss_cons (ds_set (i := 2) sc_law.nd rfl (.inl rfl) (de_add (de_var (pv 2)) (de_lst (da_cons (de_join de_str (de_add (de_mul (de_lst (da_cons de_str da_nil)) de_int) (de_lst (da_cons de_str da_nil)))) (da_cons (de_join de_str (de_mul (de_lst (da_cons de_str da_nil)) de_int)) (da_cons (de_join de_str (de_var (pv 7))) (da_cons (de_add (de_add de_str (de_mulS de_str de_int)) de_str) da_nil))))))) (dss_cons (ds_app (pv 2) (de_join de_str (de_mul (de_lst (da_cons de_str da_nil)) de_int))) (dss_frz 2 (dss_cons (ds_for (T := (.one 8)) PassesOwn.never rfl (di_seq (de_add (de_var (pv 2)) (de_later H_q_wide_texts HL_q_later gd (hr.mono (by decide)) (hr.mono (by decide)) (by rfl) (by rfl) (pv 0) da_nil))) (dg_one sc_law.nd rfl (.inr rfl)) (dss_cons (ds_set (i := 9) sc_law.nd rfl (.inl rfl) (de_repr gd hu (by rfl) T.n_repr (de_has H_q_read_life gd (hr.mono (by decide)) (by rfl) (da_cons (de_var (pv 8)) da_nil)))) (dss_one (ds_if (dt_ne hu (de_lc (own := [("_law_turn", 5)]) (T := (.one 5)) rfl sc_law.nd (di_range1 (by rfl) T.n_range de_int) (blkOk_by (own := [("_law_turn", 5)]) (N := N_law) (sc := defScope st_law) (by decide +kernel)) (by decide) (fun _ _ _ _ _ => (dg_one sc_law.nd rfl (.inl rfl))) (fun _ _ _ _ _ => ts_nil) (fun _ _ _ _ _ => (de_repr gd hu (by rfl) T.n_repr (de_has H_q_told gd (hr.mono (by decide)) (by rfl) (da_cons (de_var (pv 8)) da_nil))))) (de_lst (da_cons (de_var (pv 9)) (da_cons (de_var (pv 9)) da_nil)))) (dss_one (ds_ret de_bl)) dss_nil)))) (dss_one (ds_ret de_bl)))))))))))))))))
  exact ⟨_, pss_cons (ps_set (i := 1) sc_law.nd rfl (.inl rfl) (callG GF gd (hr.mono (by decide)) (by rfl) mF FF.kp bF pass0 (pa_cons (pv 0) pa_nil))) rest, .ref a, rfl, a, ns, rfl, hS, hl, fun fa ca G hle n1 n2 hne e1 e2 => law_rest2 N_law rfl hS hle n1 n2 hne e1 e2 (fin ns hl) qq⟩
theorem all_ok (T : Txt K mg) {f : Addr} {fd : FuncData} (F : Fun K "law" "law" st_law f fd) (fn : ∀ ns : List Int, ns.length ≤ 63 → ∃ f, S_law (.scr ns :: .feed :: List.replicate 8 .emp) (feed0 ns) = .ok (.rt (.dat (.bool true))) f) : FnG P w K mg base CX0 10 f fd ["_law_script"] (spLaw K) := by
  have H_q_draw := h_q_draw (P := P) (w := w) (base := base) T
  have H_q_lowest := h_q_lowest (P := P) (w := w) (base := base) T
  have H_q_by := h_q_by (P := P) (w := w) (base := base) T H_q_lowest
  have H_q_bounded := h_q_bounded (P := P) (w := w) (base := base) T H_q_draw H_q_lowest
  have H_q_stepped := h_q_stepped (P := P) (w := w) (base := base) T H_q_draw H_q_lowest
  have H_q_life := h_q_life (P := P) (w := w) (base := base) T H_q_draw H_q_by H_q_bounded H_q_stepped
  have H_q_ratio_text := h_q_ratio_text (P := P) (w := w) (base := base) T
  have H_q_life_text := h_q_life_text (P := P) (w := w) (base := base) T H_q_ratio_text
  have H_q_add := h_q_add (P := P) (w := w) (base := base) T H_q_lowest
  have H_q_figures := h_q_figures (P := P) (w := w) (base := base) T
  have H_q_chance := h_q_chance (P := P) (w := w) (base := base) T H_q_lowest H_q_figures
  have H_q_is_over := h_q_is_over (P := P) (w := w) (base := base) T
  have H_q_read_life := h_q_read_life (P := P) (w := w) (base := base) T H_q_lowest H_q_add H_q_by H_q_chance H_q_is_over
  have H_q_signs := h_q_signs (P := P) (w := w) (base := base) T
  have H_q_signed := h_q_signed (P := P) (w := w) (base := base) T H_q_draw H_q_signs
  have H_q_worded := h_q_worded (P := P) (w := w) (base := base) T H_q_draw
  have H_common := h_common (P := P) (w := w) (base := base) T
  have H_ratio := h_ratio (P := P) (w := w) (base := base) T H_common
  have H_plus := h_plus (P := P) (w := w) (base := base) T H_ratio
  have H_is_below := h_is_below (P := P) (w := w) (base := base) T
  have H_is_whole := h_is_whole (P := P) (w := w) (base := base) T
  have H_is_ratio := h_is_ratio (P := P) (w := w) (base := base) T H_is_whole H_common
  have H_number_in := h_number_in (P := P) (w := w) (base := base) T
  have H_chance_in := h_chance_in (P := P) (w := w) (base := base) T H_is_ratio H_number_in
  have H_is_chance := h_is_chance (P := P) (w := w) (base := base) T H_is_ratio
  have H_minus := h_minus (P := P) (w := w) (base := base) T H_ratio
  have H_times := h_times (P := P) (w := w) (base := base) T H_ratio
  have H_over := h_over (P := P) (w := w) (base := base) T H_ratio
  have H_summed := h_summed (P := P) (w := w) (base := base) T H_plus
  have H_chances_added := h_chances_added (P := P) (w := w) (base := base) T H_plus H_minus H_times H_over H_summed
  have H_is_life := h_is_life (P := P) (w := w) (base := base) T H_is_below H_is_chance H_chances_added
  have H_read_step_X := h_read_step_X (P := P) (w := w) (base := base) T H_is_life H_chance_in
  have H_read_life_X := h_read_life_X (P := P) (w := w) (base := base) T H_plus H_is_below H_chance_in H_read_step_X
  have H_q_told := h_q_told (P := P) (w := w) (base := base) T H_read_life_X
  have H_q_wide_texts := h_q_wide_texts (P := P) (w := w) (base := base) T H_q_draw H_q_worded
  exact ok_law T H_q_draw H_q_life H_q_life_text H_q_read_life H_q_signed H_q_worded H_q_told H_q_wide_texts F fn
theorem all_mk {l : PySem.W.OpenLaw} {w : World} {K : PySem.W.Frag} {h : Heap} {mg : Str → Option Value} {fa : Addr} (KX : K.In h) (G : h.Ns mainGlobals mg) (hmg : mg "law" = some (.ref fa)) (T : Txt K mg) :
    ∃ fd : FuncData, (∀ (s : Shared) (u : Value), BindsTo s fd ⟨[u], []⟩ [("_law_script", u)]) ∧ ∀ base : Heap, K.In base → base.Ns mainGlobals mg → FnG l.prog w K mg base CX0 10 fa fd ["_law_script"] (spLaw K) := by
  obtain ⟨f, fd, hm, F, _⟩ := T.s_law.src
  cases hmg.symm.trans hm
  have F0 := F
  obtain ⟨oc, od, kV, dc, pm, an, cd, ct, sl, e, _, _⟩ := F0.ex
  exact ⟨fd, fun s v => e ▸ .of_eq rfl, fun base _ _ => all_ok T F fin⟩
end
end
end Lfreshparts_k71_texts_that_write_no_life
open PySem PySem.W PyProof.Rows
set_option maxHeartbeats 0 in
theorem PySem.Challenge.cw_freshparts_k71_texts_that_write_no_life_holds : PySem.Challenge.rw_freshparts_k71_texts_that_write_no_life.Holds := by
  w_on; o_law; k_head; (case hw => w_witness2)
  k_fill
  refine Dn.walkG (l := PySem.Challenge.rw_freshparts_k71_texts_that_write_no_life) (k := 10) (x := "_law_script") rfl rfl ⟨rfl, by decide, by decide⟩ (fun w h Y => PySem.W.kIn_of Y) ?F
  case F =>
    intro w mg fa h KX G hmg
    refine' Lfreshparts_k71_texts_that_write_no_life.all_mk (l := PySem.Challenge.rw_freshparts_k71_texts_that_write_no_life) KX G hmg ?T
    case T =>
      refine' ⟨?e_ok, ?p_FreshError, ?p_NoAge, ?p_NoBeat, ?p_NoLines, ?p_NoName, ?p_NoPaper, ?p_NoRatio, ?p_NoRow, ?p_NoText, ?p_TooMany, ?p_ValueError, ?b_FE, ?r_NoText, ?n_abs, ?n_all, ?n_bool, ?n_enumerate, ?n_int, ?n_isinstance, ?n_len, ?n_list, ?n_max, ?n_range, ?n_repr, ?n_str, ?n_sum, ?n_tuple, ?s_q_feed, ?s_q_later, ?s_q_draw, ?s_q_lowest, ?s_q_by, ?s_q_bounded, ?s_q_stepped, ?s_q_life, ?s_q_ratio_text, ?s_q_life_text, ?s_q_add, ?s_q_figures, ?s_q_chance, ?s_q_is_over, ?s_q_read_life, ?s_q_signs, ?s_q_signed, ?s_q_worded, ?s_common, ?s_ratio, ?s_plus, ?s_is_below, ?s_is_whole, ?s_is_ratio, ?s_number_in, ?s_chance_in, ?s_is_chance, ?s_minus, ?s_times, ?s_over, ?s_summed, ?s_chances_added, ?s_is_life, ?s_read_step_X, ?s_read_life_X, ?s_q_told, ?s_q_wide_texts, ?s_law, ?k_NOUGHT_ratios, ?k_ONE_ratios, ?k_FIGURES, ?k_MOST_FIGURES, ?k_NOUGHT_texts, ?k_ONE_texts, ?k_NONE_THERE, ?k_BEHIND⟩
      (case e_ok => kernel_rfl)
      (case p_FreshError => refine' Dn.errP_mk KX G ?pa_FreshError ?pb_FreshError; (case pa_FreshError => k_is); (case pb_FreshError => kernel_rfl))
      (case p_NoAge => refine' Dn.errP_mk KX G ?pa_NoAge ?pb_NoAge; (case pa_NoAge => k_is); (case pb_NoAge => kernel_rfl))
      (case p_NoBeat => refine' Dn.errP_mk KX G ?pa_NoBeat ?pb_NoBeat; (case pa_NoBeat => k_is); (case pb_NoBeat => kernel_rfl))
      (case p_NoLines => refine' Dn.errP_mk KX G ?pa_NoLines ?pb_NoLines; (case pa_NoLines => k_is); (case pb_NoLines => kernel_rfl))
      (case p_NoName => refine' Dn.errP_mk KX G ?pa_NoName ?pb_NoName; (case pa_NoName => k_is); (case pb_NoName => kernel_rfl))
      (case p_NoPaper => refine' Dn.errP_mk KX G ?pa_NoPaper ?pb_NoPaper; (case pa_NoPaper => k_is); (case pb_NoPaper => kernel_rfl))
      (case p_NoRatio => refine' Dn.errP_mk KX G ?pa_NoRatio ?pb_NoRatio; (case pa_NoRatio => k_is); (case pb_NoRatio => kernel_rfl))
      (case p_NoRow => refine' Dn.errP_mk KX G ?pa_NoRow ?pb_NoRow; (case pa_NoRow => k_is); (case pb_NoRow => kernel_rfl))
      (case p_NoText => refine' Dn.errP_mk KX G ?pa_NoText ?pb_NoText; (case pa_NoText => k_is); (case pb_NoText => kernel_rfl))
      (case p_TooMany => refine' Dn.errP_mk KX G ?pa_TooMany ?pb_TooMany; (case pa_TooMany => k_is); (case pb_TooMany => kernel_rfl))
      (case p_ValueError => refine' ⟨.inr ⟨PySem.W.mg_none_of KX G ?vea, by decide +kernel, by decide⟩, ?veb⟩; (case vea => k_is); (case veb => kernel_rfl))
      (case b_FE => refine' Dn.errB_mk KX G ?bfa ?bfb ?bfc ?bfd; (case bfa => k_is); (case bfb => k_is); (case bfc => k_is); (case bfd => k_is))
      (case r_NoText => refine' Dn.errS_mk KX G ?ra_NoText ?rl_NoText ?rs_NoText ?re_NoText ?rt_NoText ?rk_NoText ?rn_NoText ?ri_NoText ?rj_NoText ?rm_NoText ?rc_NoText ?ry_NoText (fun _ _ _ _ _ _ us hl => match us, hl with | [_, _], _ => rfl); (case ra_NoText => k_is); (case rl_NoText => k_is); (case rs_NoText => k_is); (case re_NoText => k_is); (case rt_NoText => k_is); (case rk_NoText => k_is); (case rn_NoText => kernel_rfl); (case ri_NoText => k_is); (case rj_NoText => k_is); (case rm_NoText => k_is); (case rc_NoText => k_is); (case ry_NoText => k_is))
      (case n_abs => refine' PySem.W.mg_none_of KX G ?a0; (case a0 => k_is))
      (case n_all => refine' PySem.W.mg_none_of KX G ?a1; (case a1 => k_is))
      (case n_bool => refine' PySem.W.mg_none_of KX G ?a2; (case a2 => k_is))
      (case n_enumerate => refine' PySem.W.mg_none_of KX G ?a3; (case a3 => k_is))
      (case n_int => refine' PySem.W.mg_none_of KX G ?a4; (case a4 => k_is))
      (case n_isinstance => refine' PySem.W.mg_none_of KX G ?a5; (case a5 => k_is))
      (case n_len => refine' PySem.W.mg_none_of KX G ?a6; (case a6 => k_is))
      (case n_list => refine' PySem.W.mg_none_of KX G ?a7; (case a7 => k_is))
      (case n_max => refine' PySem.W.mg_none_of KX G ?a8; (case a8 => k_is))
      (case n_range => refine' PySem.W.mg_none_of KX G ?a9; (case a9 => k_is))
      (case n_repr => refine' PySem.W.mg_none_of KX G ?a10; (case a10 => k_is))
      (case n_str => refine' PySem.W.mg_none_of KX G ?a11; (case a11 => k_is))
      (case n_sum => refine' PySem.W.mg_none_of KX G ?a12; (case a12 => k_is))
      (case n_tuple => refine' PySem.W.mg_none_of KX G ?a13; (case a13 => k_is))
      (case s_q_feed => refine' Dn.src_mk KX G ?a14 ?l14 ?c14 ?k14 (fun _ _ _ _ _ _ us hl => match us, hl with | [_], _ => rfl); (case a14 => k_is); (case l14 => k_is); (case c14 => k_is); (case k14 => k_is))
      (case s_q_later => refine' Dn.src_mk KX G ?a15 ?l15 ?c15 ?k15 (fun _ _ _ _ _ _ us hl => match us, hl with | [_], _ => rfl); (case a15 => k_is); (case l15 => k_is); (case c15 => k_is); (case k15 => k_is))
      (case s_q_draw => refine' Dn.src_mk KX G ?a16 ?l16 ?c16 ?k16 (fun _ _ _ _ _ _ us hl => match us, hl with | [_, _], _ => rfl); (case a16 => k_is); (case l16 => k_is); (case c16 => k_is); (case k16 => k_is))
      (case s_q_lowest => refine' Dn.src_mk KX G ?a17 ?l17 ?c17 ?k17 (fun _ _ _ _ _ _ us hl => match us, hl with | [_, _], _ => rfl); (case a17 => k_is); (case l17 => k_is); (case c17 => k_is); (case k17 => k_is))
      (case s_q_by => refine' Dn.src_mk KX G ?a18 ?l18 ?c18 ?k18 (fun _ _ _ _ _ _ us hl => match us, hl with | [_, _], _ => rfl); (case a18 => k_is); (case l18 => k_is); (case c18 => k_is); (case k18 => k_is))
      (case s_q_bounded => refine' Dn.src_mk KX G ?a19 ?l19 ?c19 ?k19 (fun _ _ _ _ _ _ us hl => match us, hl with | [_, _, _], _ => rfl); (case a19 => k_is); (case l19 => k_is); (case c19 => k_is); (case k19 => k_is))
      (case s_q_stepped => refine' Dn.src_mk KX G ?a20 ?l20 ?c20 ?k20 (fun _ _ _ _ _ _ us hl => match us, hl with | [_], _ => rfl); (case a20 => k_is); (case l20 => k_is); (case c20 => k_is); (case k20 => k_is))
      (case s_q_life => refine' Dn.src_mk KX G ?a21 ?l21 ?c21 ?k21 (fun _ _ _ _ _ _ us hl => match us, hl with | [_], _ => rfl); (case a21 => k_is); (case l21 => k_is); (case c21 => k_is); (case k21 => k_is))
      (case s_q_ratio_text => refine' Dn.src_mk KX G ?a22 ?l22 ?c22 ?k22 (fun _ _ _ _ _ _ us hl => match us, hl with | [_], _ => rfl); (case a22 => k_is); (case l22 => k_is); (case c22 => k_is); (case k22 => k_is))
      (case s_q_life_text => refine' Dn.src_mk KX G ?a23 ?l23 ?c23 ?k23 (fun _ _ _ _ _ _ us hl => match us, hl with | [_], _ => rfl); (case a23 => k_is); (case l23 => k_is); (case c23 => k_is); (case k23 => k_is))
      (case s_q_add => refine' Dn.src_mk KX G ?a24 ?l24 ?c24 ?k24 (fun _ _ _ _ _ _ us hl => match us, hl with | [_, _], _ => rfl); (case a24 => k_is); (case l24 => k_is); (case c24 => k_is); (case k24 => k_is))
      (case s_q_figures => refine' Dn.src_mk KX G ?a25 ?l25 ?c25 ?k25 (fun _ _ _ _ _ _ us hl => match us, hl with | [_], _ => rfl); (case a25 => k_is); (case l25 => k_is); (case c25 => k_is); (case k25 => k_is))
      (case s_q_chance => refine' Dn.src_mk KX G ?a26 ?l26 ?c26 ?k26 (fun _ _ _ _ _ _ us hl => match us, hl with | [_], _ => rfl); (case a26 => k_is); (case l26 => k_is); (case c26 => k_is); (case k26 => k_is))
      (case s_q_is_over => refine' Dn.src_mk KX G ?a27 ?l27 ?c27 ?k27 (fun _ _ _ _ _ _ us hl => match us, hl with | [_], _ => rfl); (case a27 => k_is); (case l27 => k_is); (case c27 => k_is); (case k27 => k_is))
      (case s_q_read_life => refine' Dn.src_mk KX G ?a28 ?l28 ?c28 ?k28 (fun _ _ _ _ _ _ us hl => match us, hl with | [_], _ => rfl); (case a28 => k_is); (case l28 => k_is); (case c28 => k_is); (case k28 => k_is))
      (case s_q_signs => refine' Dn.src_mk KX G ?a29 ?l29 ?c29 ?k29 (fun _ _ _ _ _ _ us hl => match us, hl with | [], _ => rfl); (case a29 => k_is); (case l29 => k_is); (case c29 => k_is); (case k29 => k_is))
      (case s_q_signed => refine' Dn.src_mk KX G ?a30 ?l30 ?c30 ?k30 (fun _ _ _ _ _ _ us hl => match us, hl with | [_, _], _ => rfl); (case a30 => k_is); (case l30 => k_is); (case c30 => k_is); (case k30 => k_is))
      (case s_q_worded => refine' Dn.src_mk KX G ?a31 ?l31 ?c31 ?k31 (fun _ _ _ _ _ _ us hl => match us, hl with | [_, _], _ => rfl); (case a31 => k_is); (case l31 => k_is); (case c31 => k_is); (case k31 => k_is))
      (case s_common => refine' Dn.src_mk KX G ?a32 ?l32 ?c32 ?k32 (fun _ _ _ _ _ _ us hl => match us, hl with | [_, _], _ => rfl); (case a32 => k_is); (case l32 => k_is); (case c32 => k_is); (case k32 => k_is))
      (case s_ratio => refine' Dn.src_mk KX G ?a33 ?l33 ?c33 ?k33 (fun _ _ _ _ _ _ us hl => match us, hl with | [_, _], _ => rfl); (case a33 => k_is); (case l33 => k_is); (case c33 => k_is); (case k33 => k_is))
      (case s_plus => refine' Dn.src_mk KX G ?a34 ?l34 ?c34 ?k34 (fun _ _ _ _ _ _ us hl => match us, hl with | [_, _], _ => rfl); (case a34 => k_is); (case l34 => k_is); (case c34 => k_is); (case k34 => k_is))
      (case s_is_below => refine' Dn.src_mk KX G ?a35 ?l35 ?c35 ?k35 (fun _ _ _ _ _ _ us hl => match us, hl with | [_, _], _ => rfl); (case a35 => k_is); (case l35 => k_is); (case c35 => k_is); (case k35 => k_is))
      (case s_is_whole => refine' Dn.src_mk KX G ?a36 ?l36 ?c36 ?k36 (fun _ _ _ _ _ _ us hl => match us, hl with | [_], _ => rfl); (case a36 => k_is); (case l36 => k_is); (case c36 => k_is); (case k36 => k_is))
      (case s_is_ratio => refine' Dn.src_mk KX G ?a37 ?l37 ?c37 ?k37 (fun _ _ _ _ _ _ us hl => match us, hl with | [_], _ => rfl); (case a37 => k_is); (case l37 => k_is); (case c37 => k_is); (case k37 => k_is))
      (case s_number_in => refine' Dn.src_mk KX G ?a38 ?l38 ?c38 ?k38 (fun _ _ _ _ _ _ us hl => match us, hl with | [_], _ => rfl); (case a38 => k_is); (case l38 => k_is); (case c38 => k_is); (case k38 => k_is))
      (case s_chance_in => refine' Dn.src_mk KX G ?a39 ?l39 ?c39 ?k39 (fun _ _ _ _ _ _ us hl => match us, hl with | [_], _ => rfl); (case a39 => k_is); (case l39 => k_is); (case c39 => k_is); (case k39 => k_is))
      (case s_is_chance => refine' Dn.src_mk KX G ?a40 ?l40 ?c40 ?k40 (fun _ _ _ _ _ _ us hl => match us, hl with | [_], _ => rfl); (case a40 => k_is); (case l40 => k_is); (case c40 => k_is); (case k40 => k_is))
      (case s_minus => refine' Dn.src_mk KX G ?a41 ?l41 ?c41 ?k41 (fun _ _ _ _ _ _ us hl => match us, hl with | [_, _], _ => rfl); (case a41 => k_is); (case l41 => k_is); (case c41 => k_is); (case k41 => k_is))
      (case s_times => refine' Dn.src_mk KX G ?a42 ?l42 ?c42 ?k42 (fun _ _ _ _ _ _ us hl => match us, hl with | [_, _], _ => rfl); (case a42 => k_is); (case l42 => k_is); (case c42 => k_is); (case k42 => k_is))
      (case s_over => refine' Dn.src_mk KX G ?a43 ?l43 ?c43 ?k43 (fun _ _ _ _ _ _ us hl => match us, hl with | [_, _], _ => rfl); (case a43 => k_is); (case l43 => k_is); (case c43 => k_is); (case k43 => k_is))
      (case s_summed => refine' Dn.src_mk KX G ?a44 ?l44 ?c44 ?k44 (fun _ _ _ _ _ _ us hl => match us, hl with | [_], _ => rfl); (case a44 => k_is); (case l44 => k_is); (case c44 => k_is); (case k44 => k_is))
      (case s_chances_added => refine' Dn.src_mk KX G ?a45 ?l45 ?c45 ?k45 (fun _ _ _ _ _ _ us hl => match us, hl with | [_], _ => rfl); (case a45 => k_is); (case l45 => k_is); (case c45 => k_is); (case k45 => k_is))
      (case s_is_life => refine' Dn.src_mk KX G ?a46 ?l46 ?c46 ?k46 (fun _ _ _ _ _ _ us hl => match us, hl with | [_], _ => rfl); (case a46 => k_is); (case l46 => k_is); (case c46 => k_is); (case k46 => k_is))
      (case s_read_step_X => refine' Dn.src_mk KX G ?a47 ?l47 ?c47 ?k47 (fun _ _ _ _ _ _ us hl => match us, hl with | [_, _], _ => rfl); (case a47 => k_is); (case l47 => k_is); (case c47 => k_is); (case k47 => k_is))
      (case s_read_life_X => refine' Dn.src_mk KX G ?a48 ?l48 ?c48 ?k48 (fun _ _ _ _ _ _ us hl => match us, hl with | [_], _ => rfl); (case a48 => k_is); (case l48 => k_is); (case c48 => k_is); (case k48 => k_is))
      (case s_q_told => refine' Dn.src_mk KX G ?a49 ?l49 ?c49 ?k49 (fun _ _ _ _ _ _ us hl => match us, hl with | [_], _ => rfl); (case a49 => k_is); (case l49 => k_is); (case c49 => k_is); (case k49 => k_is))
      (case s_q_wide_texts => refine' Dn.src_mk KX G ?a50 ?l50 ?c50 ?k50 (fun _ _ _ _ _ _ us hl => match us, hl with | [_], _ => rfl); (case a50 => k_is); (case l50 => k_is); (case c50 => k_is); (case k50 => k_is))
      (case s_law => refine' Dn.src_mk KX G ?a51 ?l51 ?c51 ?k51 (fun _ _ _ _ _ _ us hl => match us, hl with | [_], _ => rfl); (case a51 => k_is); (case l51 => k_is); (case c51 => k_is); (case k51 => k_is))
      (case k_NOUGHT_ratios => refine' Dn.rat_mk KX G ?a52 ?l52; (case a52 => k_is); (case l52 => k_is))
      (case k_ONE_ratios => refine' Dn.rat_mk KX G ?a53 ?l53; (case a53 => k_is); (case l53 => k_is))
      (case k_FIGURES => refine' Dn.txt_mk KX G ?a54; (case a54 => k_is))
      (case k_MOST_FIGURES => refine' Dn.int_mk KX G ?a55; (case a55 => k_is))
      (case k_NOUGHT_texts => refine' Dn.rat_mk KX G ?a56 ?l56; (case a56 => k_is); (case l56 => k_is))
      (case k_ONE_texts => refine' Dn.rat_mk KX G ?a57 ?l57; (case a57 => k_is); (case l57 => k_is))
      (case k_NONE_THERE => refine' Dn.txt_mk KX G ?a58; (case a58 => k_is))
      (case k_BEHIND => refine' Dn.txt_mk KX G ?a59; (case a59 => k_is))
