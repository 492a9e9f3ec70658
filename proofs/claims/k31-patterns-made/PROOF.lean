import PyProof.Rows.All
import Wide.All
import OpenK.AllK
import Wide.FinOn
import HandS.ForMost
import HandS.Defaults
import HandS.Property
import HandS.Zip
import HandS.Deep
import HandS.IsInst
import HandS.Conv
import HandS.FStr
import HandS.WideBits
import HandS.HeadEnd
import HandS.HeadHook1
import HandS.HeadHook2
import HandS.HeadHook3
import HandS.HeadHook4
import HandS.Head0
import HandS.Head1
import HandS.Head2
import KE.SortData
import KE.SortKeyHeap
import KE.DataFind
import KE.DataCmp
import KE.Datum
import KE.DatumIndex
import KE.KeyNested
import KE.KDictKeyed
import HandS.Lambda
import HandS.EndTab
import HandS.TupAny
import HandS.Text
import HandS.Style
import HandS.Star
import KE.KDictWalk
import HandS.MakeKwOnly
import PyProof.ReprRoads
import PyProof.FitsInt
import PyProof.StrLawsRepr
import HandS.TupSets
import HandS.TryOnly
import KE.GoesMore
import HandS.Wide
import KE.KCallOwn
import PyProof.InstNe
import HandS.RaiseMore
import HandS.Small
import PyProof.TupleOfSeq
import KE.GoesNew
import HandS.ExcInit
import HandS.ExcOwn
import KE.DataMinMax
import KE.KDictSum
import HandS.SetFor
import HandS.Strs
import HandS.DictComp
import HandS.WordsDict
import HandS.More
import HandS.Dict
import PyProof.SumAny
import PyProof.Rows.SeqMore
import KE.KDictDisplayH
import KE.DataAny
import KE.KIndexOf
import HandS.Iter
import HandS.ExcField
import HandS.TryMany
import KE.KEqNest
import KE.KExcInit
import PyProof.StrLawsIn
import PyProof.Rows.StrSplitAre
import PyProof.Rows.StrItems
import PyProof.StrLawsChain
import PySem.Challenge.RW_pairheld_k31_whole_patterns_made
set_option Elab.async false
set_option linter.all false
set_option maxRecDepth 100000
set_option maxHeartbeats 4000000
namespace TL
open PySem PySem.Spec L2
abbrev St := L2.St
/-- tree values -/
inductive T where
  | non | bl (b : Bool) | int (i : Int) | str (s : Str)
  | tup (ts : List T) | lst (ts : List T)
  | obj (c : Nat) (fs : List T)
  | ref (n : Nat)
  | arg (ts : List T)
  | tpx (ts : List T)
  deriving Inhabited
/-- what stands in the small heap -/
inductive VO where
  | lst (ts : List T)
  | ins (c : Nat) (fs : List T)
  | dct (kvs : List (T × T))
  | dcT (kvs : List (List Key × T))
  | dcF (kvs : List (T × T))
  | dcN (kvs : List (T × T))
  | tab (q : Str)
  deriving Inhabited
abbrev VH := List VO
inductive Res (α : Type) where
  | ok (a : α) (h : VH)
  | bad
/-- behind a statement -/
inductive Out where
  | nx (τ : List (Option T)) (h : VH)
  | rt (t : T) (h : VH)
  | bk (τ : List (Option T)) (h : VH)
  | ct (τ : List (Option T)) (h : VH)
  | bad
abbrev TS_ := List (Option T)
abbrev ME := TS_ → VH → Res T
abbrev MA := TS_ → VH → Res (List T)
abbrev MB := TS_ → VH → Res Bool
abbrev MS := TS_ → VH → Out
/-- which addresses may change: those of the small heap by number, those that are being built -/
structure Rh where
  ix : List Addr
  bn : List Addr
def Rh.out (ρ : Rh) (a : Addr) : Prop := a ∉ ρ.ix ∧ a ∉ ρ.bn
def Rh.push (ρ : Rh) (p : Addr) : Rh := ⟨ρ.ix ++ [p], ρ.bn⟩
def Rh.ban (ρ : Rh) (p : Addr) : Rh := ⟨ρ.ix, p :: ρ.bn⟩
/-- the world: the written part, the classes by number, the names of their attributes -/
structure Wd where
  K : PySem.W.Frag
  cm : Nat → Option Addr
  fn : Nat → List Str
  w : World
  /-- the tables of code objects, by the lambdas' name -/
  tb : Str → Option Addr
def KL (K : PySem.W.Frag) (a : Addr) (xs : List V) : Prop := ∃ (o : Obj) (its : Array Value) (n : Nat), K.lookup a = some o ∧ o.cls = .type "list" ∧ o.dict = none ∧ o.data = .seq its n ∧ its.size ≤ sizeLine ∧ Vals xs its.toList
def KT (K : PySem.W.Frag) (a : Addr) (xs : List V) : Prop := ∃ (o : Obj) (its : Array Value) (n : Nat), K.lookup a = some o ∧ o.cls = .type "tuple" ∧ o.data = .seq its n ∧ its.size ≤ sizeLine ∧ Vals xs its.toList
def LstAt (Y : Wd) (ρ : Rh) (H : Hp) (a : Addr) (xs : List V) : Prop := xs.length ≤ sizeLine ∧ ρ.out a ∧ H a = some (.lst xs)
def ArgAt (Y : Wd) (ρ : Rh) (H : Hp) (a : Addr) (xs : List V) : Prop := xs.length ≤ sizeLine ∧ ((ρ.out a ∧ Rd H a (.lst xs)) ∨ KL Y.K a xs)
def TupAt (Y : Wd) (ρ : Rh) (H : Hp) (a : Addr) (xs : List V) : Prop := xs.length ≤ sizeLine ∧ ((ρ.out a ∧ Rd H a (.tup xs)) ∨ KT Y.K a xs)
/-- a tuple that is known to the object and has no dict of its own (its methods may be called) -/
def TpxAt (ρ : Rh) (H : Hp) (a : Addr) (xs : List V) : Prop := xs.length ≤ sizeLine ∧ ρ.out a ∧ ∃ o : Obj, o.dict = none ∧ o.cls = .type "tuple" ∧ H a = some (.frz o (.tup xs))
theorem LstAt.sq {Y : Wd} {ρ : Rh} {H : Hp} {a : Addr} {xs : List V} (h : LstAt Y ρ H a xs) : SqL Y.K H a xs := .inl (.inl h.2.2)
theorem ArgAt.sq {Y : Wd} {ρ : Rh} {H : Hp} {a : Addr} {xs : List V} (h : ArgAt Y ρ H a xs) : SqL Y.K H a xs := h.2.elim (fun z => .inl z.2) .inr
theorem TupAt.sq {Y : Wd} {ρ : Rh} {H : Hp} {a : Addr} {xs : List V} (h : TupAt Y ρ H a xs) : SqT Y.K H a xs := h.2.elim (fun z => .inl z.2) .inr
mutual
/-- v represents t -/
inductive Rp (Y : Wd) (ρ : Rh) (H : Hp) : T → V → Prop
  | non : Rp Y ρ H .non .non
  | bl (b : Bool) : Rp Y ρ H (.bl b) (.bl b)
  | int (i : Int) : Rp Y ρ H (.int i) (.int i)
  | str {x : Str} : x.length ≤ 1000000 → Rp Y ρ H (.str x) (.str x)
  | tup {a : Addr} {vs : List V} {ts : List T} : TupAt Y ρ H a vs → Rps Y ρ H ts vs → Rp Y ρ H (.tup ts) (.ref a)
  | lst {a : Addr} {vs : List V} {ts : List T} : LstAt Y ρ H a vs → Rps Y ρ H ts vs → Rp Y ρ H (.lst ts) (.ref a)
  | obj {c : Nat} {a C dx : Addr} {vfs : List (Str × V)} {fs : List T} : Y.cm c = some C → ρ.out a → H a = some (.ins C dx vfs) → vfs.map (·.1) = (Y.fn c).take fs.length → Rps Y ρ H fs (vfs.map (·.2)) → Rp Y ρ H (.obj c fs) (.ref a)
  | ref {n : Nat} {a : Addr} : ρ.ix[n]? = some a → Rp Y ρ H (.ref n) (.ref a)
  | arg {a : Addr} {vs : List V} {ts : List T} : ArgAt Y ρ H a vs → Rps Y ρ H ts vs → Rp Y ρ H (.arg ts) (.ref a)
  | tpx {a : Addr} {vs : List V} {ts : List T} : TpxAt ρ H a vs → Rps Y ρ H ts vs → Rp Y ρ H (.tpx ts) (.ref a)
inductive Rps (Y : Wd) (ρ : Rh) (H : Hp) : List T → List V → Prop
  | nil : Rps Y ρ H [] []
  | cons {t : T} {v : V} {ts : List T} {vs : List V} : Rp Y ρ H t v → Rps Y ρ H ts vs → Rps Y ρ H (t :: ts) (v :: vs)
end
/-- the heap has gone on: new tracked things, changes at ρ alone; what is newly banned was not tracked -/
structure EvR (ρ : Rh) (H : Hp) (ρ' : Rh) (H' : Hp) : Prop where
  more : ∃ m, ρ'.ix = ρ.ix ++ m ∧ ∀ p ∈ m, H p = none
  bnr : ∀ a ∈ ρ'.bn, a ∈ ρ.bn ∨ H a = none
  keep : ∀ b o, H b = some o → b ∉ ρ.ix → (∀ ps, o ≠ .tbl ps) → H' b = some o
  there : ∀ b, H b ≠ none → H' b ≠ none
  fz : ∀ b o u, H b = some (.frz o u) → H' b = some (.frz o u)
structure Ev (ρ : Rh) (H : Hp) (ρ' : Rh) (H' : Hp) : Prop extends EvR ρ H ρ' H' where
  bn : ρ'.bn = ρ.bn
theorem Ev.mk' {ρ ρ' : Rh} {H H' : Hp} (more : ∃ m, ρ'.ix = ρ.ix ++ m ∧ ∀ p ∈ m, H p = none) (bn : ρ'.bn = ρ.bn) (keep : ∀ b o, H b = some o → b ∉ ρ.ix → (∀ ps, o ≠ .tbl ps) → H' b = some o) (there : ∀ b, H b ≠ none → H' b ≠ none) (fz : ∀ b o u, H b = some (.frz o u) → H' b = some (.frz o u)) : Ev ρ H ρ' H' :=
  ⟨⟨more, fun a ha => .inl (bn ▸ ha), keep, there, fz⟩, bn⟩
theorem Ev.refl {ρ : Rh} {H : Hp} : Ev ρ H ρ H := .mk' ⟨[], by simp⟩ rfl (fun _ _ e _ _ => e) (fun _ e => e) (fun _ _ _ e => e)
theorem EvR.nix {ρ ρ' : Rh} {H H' : Hp} (e : EvR ρ H ρ' H') {a : Addr} (h : a ∉ ρ.ix) (ha : H a ≠ none) : a ∉ ρ'.ix := by
  obtain ⟨m, em, hm⟩ := e.more
  intro z
  rw [em] at z
  rcases List.mem_append.mp z with z | z
  · exact h z
  · exact ha (hm a z)
theorem EvR.notin {ρ ρ' : Rh} {H H' : Hp} (e : EvR ρ H ρ' H') {a : Addr} (h : ρ.out a) (ha : H a ≠ none) : ρ'.out a := ⟨e.nix h.1 ha, fun z => (e.bnr a z).elim h.2 ha⟩
theorem EvR.get {ρ ρ' : Rh} {H H' : Hp} (e : EvR ρ H ρ' H') {n : Nat} {a : Addr} (h : ρ.ix[n]? = some a) : ρ'.ix[n]? = some a := by
  obtain ⟨m, em, hm⟩ := e.more
  rw [em, List.getElem?_append_left (List.getElem?_eq_some_iff.mp h).1]
  exact h
theorem EvR.fresh {ρ ρ' : Rh} {H H' : Hp} (e : EvR ρ H ρ' H') {p : Addr} (h : H' p = none) : H p = none := by
  cases q : H p with
  | none => rfl
  | some o => exact absurd h (e.there p (by rw [q]; simp))
theorem EvR.trans {ρ ρ1 ρ2 : Rh} {H H1 H2 : Hp} (a : EvR ρ H ρ1 H1) (b : EvR ρ1 H1 ρ2 H2) : EvR ρ H ρ2 H2 := by
  refine ⟨?_, fun c hc => (b.bnr c hc).elim (a.bnr c) (fun z => .inr (a.fresh z)), fun c o e n nt => b.keep c o (a.keep c o e n nt) (a.nix n (by rw [e]; simp)) nt, fun c e => b.there c (a.there c e), fun c o u e => b.fz c o u (a.fz c o u e)⟩
  obtain ⟨m1, e1, h1⟩ := a.more
  obtain ⟨m2, e2, h2⟩ := b.more
  refine ⟨m1 ++ m2, by rw [e2, e1, List.append_assoc], fun p hp => ?_⟩
  rcases List.mem_append.mp hp with z | z
  · exact h1 p z
  · exact a.fresh (h2 p z)
theorem Ev.trans {ρ ρ1 ρ2 : Rh} {H H1 H2 : Hp} (a : Ev ρ H ρ1 H1) (b : Ev ρ1 H1 ρ2 H2) : Ev ρ H ρ2 H2 := ⟨a.toEvR.trans b.toEvR, b.bn.trans a.bn⟩
theorem EvR.ban {ρ ρ' : Rh} {H H' : Hp} (e : EvR ρ H ρ' H') {p : Addr} (h : H p = none) : EvR ρ H (ρ'.ban p) H' := ⟨e.more, fun a ha => (List.mem_cons.mp ha).elim (fun z => .inr (z ▸ h)) (e.bnr a), e.keep, e.there, e.fz⟩
/-- one thing more is tracked -/
theorem Ev.new {ρ : Rh} {H : Hp} {p : Addr} {o : HO} (h : H p = none) : Ev ρ H ρ (upd H p o) :=
  .mk' ⟨[], by simp⟩ rfl (fun b u e _ _ => by rw [upd_ne (ne_of_none e h)]; exact e) (fun b e => by
    by_cases z : b = p
    · rw [z, upd_same]; simp
    · rw [upd_ne z]; exact e) (fun b q u e => by rw [upd_ne (ne_of_none e h)]; exact e)
/-- and is one that may change -/
theorem Ev.newρ {ρ : Rh} {H : Hp} {p : Addr} {o : HO} (h : H p = none) : Ev ρ H (ρ.push p) (upd H p o) :=
  .mk' ⟨[p], rfl, fun q hq => by rw [List.mem_singleton.mp hq]; exact h⟩ rfl (Ev.new (ρ := ρ) h).keep (Ev.new (ρ := ρ) h).there (Ev.new (ρ := ρ) h).fz
/-- a change at ρ -/
theorem Ev.write {ρ : Rh} {H : Hp} {p : Addr} {o : HO} (h : p ∈ ρ.ix) (nf : ∀ q u, H p ≠ some (.frz q u)) : Ev ρ H ρ (upd H p o) :=
  .mk' ⟨[], by simp⟩ rfl (fun b u e n _ => by rw [upd_ne (fun z => n (by rw [z]; exact h))]; exact e) (fun b e => by
    by_cases z : b = p
    · rw [z, upd_same]; simp
    · rw [upd_ne z]; exact e) (fun b q u e => by rw [upd_ne (fun z : b = p => nf q u (by rw [← z]; exact e))]; exact e)
theorem Rd.some {H : Hp} {a : Addr} {u : HO} (r : Rd H a u) : H a ≠ none := by
  rcases r with r | ⟨o, r⟩ <;> rw [r] <;> simp
theorem Rd.ev {ρ ρ' : Rh} {H H' : Hp} (e : EvR ρ H ρ' H') {a : Addr} {u : HO} (h : ρ.out a) (r : Rd H a u) (nt : ∀ ps, u ≠ .tbl ps := by intro _ z; cases z) : ρ'.out a ∧ Rd H' a u := by
  refine ⟨e.notin h (Rd.some r), ?_⟩
  rcases r with r | ⟨o, r⟩
  · exact .inl (e.keep _ _ r h.1 nt)
  · exact .inr ⟨o, e.keep _ _ r h.1 (fun _ z => by cases z)⟩
theorem LstAt.ev {Y : Wd} {ρ ρ' : Rh} {H H' : Hp} (e : EvR ρ H ρ' H') {a : Addr} {xs : List V} (h : LstAt Y ρ H a xs) : LstAt Y ρ' H' a xs :=
  ⟨h.1, e.notin h.2.1 (by rw [h.2.2]; simp), e.keep _ _ h.2.2 h.2.1.1 (fun _ z => by cases z)⟩
theorem ArgAt.ev {Y : Wd} {ρ ρ' : Rh} {H H' : Hp} (e : EvR ρ H ρ' H') {a : Addr} {xs : List V} (h : ArgAt Y ρ H a xs) : ArgAt Y ρ' H' a xs :=
  ⟨h.1, h.2.elim (fun z => .inl (Rd.ev e z.1 z.2)) .inr⟩
theorem TupAt.ev {Y : Wd} {ρ ρ' : Rh} {H H' : Hp} (e : EvR ρ H ρ' H') {a : Addr} {xs : List V} (h : TupAt Y ρ H a xs) : TupAt Y ρ' H' a xs :=
  ⟨h.1, h.2.elim (fun z => .inl (Rd.ev e z.1 z.2)) .inr⟩
theorem TpxAt.ev {ρ ρ' : Rh} {H H' : Hp} (e : EvR ρ H ρ' H') {a : Addr} {xs : List V} (h : TpxAt ρ H a xs) : TpxAt ρ' H' a xs := by
  obtain ⟨h1, h2, o, hd, hc, h3⟩ := h
  exact ⟨h1, e.notin h2 (by rw [h3]; simp), o, hd, hc, e.keep _ _ h3 h2.1 (fun _ z => by cases z)⟩
theorem TpxAt.to {ρ ρ' : Rh} {H H' : Hp} {a : Addr} {xs : List V} (h : TpxAt ρ H a xs) (out : ρ.out a → ρ'.out a) (hk : ρ.out a → H a ≠ none → H' a = H a) : TpxAt ρ' H' a xs := by
  obtain ⟨h1, h2, o, hd, hc, h3⟩ := h
  exact ⟨h1, out h2, o, hd, hc, (hk h2 (by rw [h3]; simp)).trans h3⟩
theorem TpxAt.tup {Y : Wd} {ρ : Rh} {H : Hp} {a : Addr} {xs : List V} (h : TpxAt ρ H a xs) : TupAt Y ρ H a xs := by
  obtain ⟨h1, h2, o, hd, hc, h3⟩ := h
  exact ⟨h1, .inl ⟨h2, .inr ⟨o, h3⟩⟩⟩
mutual
theorem Rp.ev {Y : Wd} {ρ ρ' : Rh} {H H' : Hp} (e : EvR ρ H ρ' H') : ∀ {t : T} {v : V}, Rp Y ρ H t v → Rp Y ρ' H' t v
  | _, _, .non => .non
  | _, _, .bl b => .bl b
  | _, _, .int i => .int i
  | _, _, .str h => .str h
  | _, _, .tup h r => .tup (h.ev e) (r.ev e)
  | _, _, .arg h r => .arg (h.ev e) (r.ev e)
  | _, _, .tpx h r => .tpx (h.ev e) (r.ev e)
  | _, _, .lst h r => .lst (h.ev e) (r.ev e)
  | _, _, .obj c n h nm r => .obj c (e.notin n (by rw [h]; simp)) (e.keep _ _ h n.1 (fun _ z => by cases z)) nm (r.ev e)
  | _, _, .ref h => .ref (e.get h)
theorem Rps.ev {Y : Wd} {ρ ρ' : Rh} {H H' : Hp} (e : EvR ρ H ρ' H') : ∀ {ts : List T} {vs : List V}, Rps Y ρ H ts vs → Rps Y ρ' H' ts vs
  | _, _, .nil => .nil
  | _, _, .cons a b => .cons (a.ev e) (b.ev e)
end
theorem Rps.length {Y : Wd} {ρ : Rh} {H : Hp} : ∀ {ts : List T} {vs : List V}, Rps Y ρ H ts vs → vs.length = ts.length
  | _, _, .nil => rfl
  | _, _, .cons _ b => by simp [b.length]
theorem Rps.get {Y : Wd} {ρ : Rh} {H : Hp} : ∀ {ts : List T} {vs : List V} {i : Nat} {t : T}, Rps Y ρ H ts vs → ts[i]? = some t → ∃ v, vs[i]? = some v ∧ Rp Y ρ H t v
  | _, _, _, _, .nil, e => by simp at e
  | _, _, 0, _, .cons a _, e => by simp at e; subst e; exact ⟨_, rfl, a⟩
  | _, _, i + 1, _, .cons _ b, e => by simpa using b.get (i := i) (by simpa using e)
theorem Rps.append {Y : Wd} {ρ : Rh} {H : Hp} : ∀ {ts us : List T} {vs ws : List V}, Rps Y ρ H ts vs → Rps Y ρ H us ws → Rps Y ρ H (ts ++ us) (vs ++ ws)
  | _, _, _, _, .nil, b => b
  | _, _, _, _, .cons a c, b => .cons a (c.append b)
theorem Rps.take {Y : Wd} {ρ : Rh} {H : Hp} (n : Nat) : ∀ {ts : List T} {vs : List V}, Rps Y ρ H ts vs → Rps Y ρ H (ts.take n) (vs.take n)
  | _, _, .nil => by simp; exact .nil
  | _, _, .cons a b => by
    cases n with
    | zero => exact .nil
    | succ n => exact .cons a (b.take n)
theorem Rps.drop {Y : Wd} {ρ : Rh} {H : Hp} (n : Nat) : ∀ {ts : List T} {vs : List V}, Rps Y ρ H ts vs → Rps Y ρ H (ts.drop n) (vs.drop n)
  | _, _, .nil => by simp; exact .nil
  | _, _, .cons a b => by
    cases n with
    | zero => exact .cons a b
    | succ n => exact b.drop n
theorem Rps.set {Y : Wd} {ρ : Rh} {H : Hp} {t : T} {v : V} (r : Rp Y ρ H t v) : ∀ {ts : List T} {vs : List V} (i : Nat), Rps Y ρ H ts vs → Rps Y ρ H (ts.set i t) (vs.set i v)
  | _, _, _, .nil => .nil
  | _, _, 0, .cons _ b => .cons r b
  | _, _, i + 1, .cons a b => .cons a (Rps.set r i b)
theorem Rps.reverse {Y : Wd} {ρ : Rh} {H : Hp} : ∀ {ts : List T} {vs : List V}, Rps Y ρ H ts vs → Rps Y ρ H ts.reverse vs.reverse
  | _, _, .nil => by simp; exact .nil
  | _, _, .cons a b => by simp only [List.reverse_cons]; exact b.reverse.append (.cons a .nil)
theorem Rps.snoc {Y : Wd} {ρ : Rh} {H : Hp} {ts : List T} {vs : List V} {t : T} {v : V} (a : Rps Y ρ H ts vs) (b : Rp Y ρ H t v) : Rps Y ρ H (ts ++ [t]) (vs ++ [v]) := a.append (.cons b .nil)
def nkT : T → Option NestedKey
  | .non => some .none
  | .bl b => some (.num (if b = true then 1 else 0))
  | .int i => some (.num i)
  | .str x => some (.text x)
  | .tup ts => (nkTs ts).map .tup
  | _ => none
where nkTs : List T → Option (List NestedKey)
  | [] => some []
  | t :: ts => match nkT t, nkTs ts with
    | some k, some ks => some (k :: ks)
    | _, _ => none
/-- what is true of the one object: its entries -/
def NestObj (w : World) (a : Addr) (xs : List (NestedKey × Addr × V)) (h : Heap) : Prop := xs.length ≤ sizeLine ∧ (a == sysModules) = false ∧ ∃ ys : List (NestedKey × Addr × Value), Paired (fun (p : NestedKey × Addr × V) (q : NestedKey × Addr × Value) => p.1 = q.1 ∧ p.2.1 = q.2.1 ∧ RelV p.2.2 q.2.2) xs ys ∧
  ∃ o es ep, h.get? a = some o ∧ o.ExactDict ∧ o.data = .dict es ep ∧ es.toList = ys.map (fun y => ({ hash := y.1.hash w, key := .ref y.2.1, val := y.2.2 } : DictEntry)) ∧ (ys.map (·.1)).Nodup
/-- a code object that a table tells: it bears the name q, and is nothing that changes -/
def CdAt (ρ : Rh) (H : Hp) (q : Str) (cv : Value) : Prop := ∃ c, cv = .ref c ∧ ρ.out c ∧ H c = some (LamX.CodeO c q)
/-- a table of code objects at a -/
def TbAt (ρ : Rh) (H : Hp) (a : Addr) (q : Str) : Prop := ∃ ps : Array Value, H a = some (.tbl ps) ∧ TriplesOk ps.toList ∧ ∀ (pos : Pos) (cv : Value), codeAmong pos ps.toList = some cv → CdAt ρ H q cv
theorem TbAt.to {ρ ρ' : Rh} {H H' : Hp} {a a' : Addr} {q : Str} (t : TbAt ρ H a q) (s : H' a' = H a) (k : ∀ c, ρ.out c → H c = some (LamX.CodeO c q) → ρ'.out c ∧ H' c = some (LamX.CodeO c q)) : TbAt ρ' H' a' q := by
  obtain ⟨ps, h1, h2, h3⟩ := t
  refine ⟨ps, s.trans h1, h2, fun pos cv hc => ?_⟩
  obtain ⟨c, e, o, hc⟩ := h3 pos cv hc
  obtain ⟨o2, h⟩ := k c o hc
  exact ⟨c, e, o2, h⟩
/-- an object of the small heap at a -/
def OR (Y : Wd) (ρ : Rh) (H : Hp) (a : Addr) : VO → Prop
  | .lst ts => ∃ vs, H a = some (.lst vs) ∧ vs.length ≤ sizeLine ∧ Rps Y ρ H ts vs
  | .ins c fs => ∃ C dx vfs, Y.cm c = some C ∧ H a = some (.ins C dx vfs) ∧ vfs.map (·.1) = (Y.fn c).take fs.length ∧ Rps Y ρ H fs (vfs.map (·.2))
  | .dct kvs => ∃ vkvs : List (Key × V), H a = some (.dK vkvs) ∧ Rps Y ρ H (kvs.map (·.1)) (vkvs.map fun q => kV q.1) ∧ Rps Y ρ H (kvs.map (·.2)) (vkvs.map (·.2))
  | .dcT kvs => ∃ vkvs : List (List Key × V), H a = some (.dT vkvs) ∧ vkvs.map (·.1) = kvs.map (·.1) ∧ Rps Y ρ H (kvs.map (·.2)) (vkvs.map (·.2))
  | .dcF kvs => ∃ (z : Obj) (vkvs : List (Key × V)), H a = some (.frz z (.dK vkvs)) ∧ Rps Y ρ H (kvs.map (·.1)) (vkvs.map fun q => kV q.1) ∧ Rps Y ρ H (kvs.map (·.2)) (vkvs.map (·.2))
  | .dcN kvs => ∃ xs : List (NestedKey × Addr × V), H a = some (.ext (NestObj Y.w a xs)) ∧ (nkT.nkTs (kvs.map (·.1)) = some (xs.map (·.1)) ∧ ∀ x ∈ xs, x.1.depth ≤ 8) ∧ Rps Y ρ H (kvs.map (·.1)) (xs.map fun x => V.ref x.2.1) ∧ Rps Y ρ H (kvs.map (·.2)) (xs.map fun x => x.2.2)
  | .tab q => Y.tb q = some a ∧ TbAt ρ H a q
/-- the small heap -/
structure HR (Y : Wd) (ρ : Rh) (H : Hp) (h : VH) : Prop where
  len : ρ.ix.length = h.length
  nd : ρ.ix.Nodup
  bt : ∀ a ∈ ρ.bn, H a ≠ none ∧ a ∉ ρ.ix
  bl : ∀ a ∈ ρ.bn, ∀ xs, H a ≠ some (.tup xs)
  at_ : ∀ (n : Nat) (o : VO) (a : Addr), h[n]? = some o → ρ.ix[n]? = some a → OR Y ρ H a o
  /-- the tables of code objects stand beside the small heap -/
  tb : ∀ (q : Str) (a : Addr), Y.tb q = some a → ρ.out a ∧ TbAt ρ H a q
theorem TbAt.some {ρ : Rh} {H : Hp} {a : Addr} {q : Str} (t : TbAt ρ H a q) : H a ≠ none := by
  obtain ⟨ps, e, _⟩ := t
  rw [e]; simp
theorem HR.tbTo {Y : Wd} {ρ ρ' : Rh} {H H' : Hp} {h : VH} (r : HR Y ρ H h) (out : ∀ c, ρ.out c → H c ≠ none → ρ'.out c) (same : ∀ c, ρ.out c → H c ≠ none → H' c = H c) (q : Str) (a : Addr) (e : Y.tb q = some a) : ρ'.out a ∧ TbAt ρ' H' a q := by
  obtain ⟨o, t⟩ := r.tb q a e
  refine ⟨out a o t.some, t.to (same a o t.some) fun c oc hc => ?_⟩
  have n : H c ≠ none := by rw [hc]; simp
  exact ⟨out c oc n, (same c oc n).trans hc⟩
theorem OR.same {Y : Wd} {ρ ρ' : Rh} {H H' : Hp} (e : EvR ρ H ρ' H') {a : Addr} {o : VO} (s : H' a = H a) (r : OR Y ρ H a o) : OR Y ρ' H' a o := by
  cases o with
  | lst ts => obtain ⟨vs, h1, hz, h2⟩ := r; exact ⟨vs, s.trans h1, hz, h2.ev e⟩
  | ins c fs => obtain ⟨C, dx, vfs, hc, h1, hn, h2⟩ := r; exact ⟨C, dx, vfs, hc, s.trans h1, hn, h2.ev e⟩
  | dct kvs => obtain ⟨vk, h1, h2, h3⟩ := r; exact ⟨vk, s.trans h1, h2.ev e, h3.ev e⟩
  | dcT kvs => obtain ⟨vk, h1, h2, h3⟩ := r; exact ⟨vk, s.trans h1, h2, h3.ev e⟩
  | dcF kvs => obtain ⟨z, vk, h1, h2, h3⟩ := r; exact ⟨z, vk, s.trans h1, h2.ev e, h3.ev e⟩
  | dcN kvs => obtain ⟨xs, h1, h0, h2, h3⟩ := r; exact ⟨xs, s.trans h1, h0, h2.ev e, h3.ev e⟩
  | tab q => exact ⟨r.1, TbAt.to r.2 s fun c o z => ⟨e.notin o (by rw [z]; simp), e.keep _ _ z o.1 (LamX.codeO_ne ·)⟩⟩
theorem OR.some {Y : Wd} {ρ : Rh} {H : Hp} {a : Addr} {o : VO} (r : OR Y ρ H a o) : H a ≠ none := by
  cases o with
  | lst ts => obtain ⟨vs, h1, h2⟩ := r; rw [h1]; simp
  | ins c fs => obtain ⟨C, dx, vfs, hc, h1, hn, h2⟩ := r; rw [h1]; simp
  | dct kvs => obtain ⟨vk, h1, h2, h3⟩ := r; rw [h1]; simp
  | dcT kvs => obtain ⟨vk, h1, h2, h3⟩ := r; rw [h1]; simp
  | dcF kvs => obtain ⟨z, vk, h1, h2, h3⟩ := r; rw [h1]; simp
  | dcN kvs => obtain ⟨xs, h1, _⟩ := r; rw [h1]; simp
  | tab q => obtain ⟨_, ps, h1, _⟩ := r; rw [h1]; simp
theorem HR.there {Y : Wd} {ρ : Rh} {H : Hp} {h : VH} (r : HR Y ρ H h) {a : Addr} (m : a ∈ ρ.ix) : H a ≠ none := by
  obtain ⟨n, hn, e⟩ := List.getElem_of_mem m
  have hh : n < h.length := by rw [← r.len]; exact hn
  exact (r.at_ n h[n] a (List.getElem?_eq_getElem hh) (by rw [List.getElem?_eq_getElem hn, e])).some
theorem HR.outof {Y : Wd} {ρ : Rh} {H : Hp} {h : VH} (r : HR Y ρ H h) {a : Addr} (m : H a = none) : ρ.out a := ⟨fun z => r.there z m, fun z => (r.bt a z).1 m⟩
/-- all that was tracked stands -/
theorem HR.grow {Y : Wd} {ρ : Rh} {H H' : Hp} {h : VH} (r : HR Y ρ H h) (k : ∀ b o, H b = some o → H' b = some o) : HR Y ρ H' h := by
  have th : ∀ b, H b ≠ none → H' b ≠ none := fun b z => by
    cases q : H b with
    | none => exact absurd q z
    | some o => rw [k b o q]; simp
  have e : EvR ρ H ρ H' := ⟨⟨[], by simp⟩, fun a ha => .inl ha, fun b o z _ _ => k b o z, th, fun b q u z => k b _ z⟩
  refine ⟨r.len, r.nd, fun a ha => ⟨th a (r.bt a ha).1, (r.bt a ha).2⟩, fun a ha xs z => ?_, fun n o a h1 h2 => (r.at_ n o a h1 h2).same e ?_, r.tbTo (fun _ o _ => o) fun c _ n => ?_⟩
  rotate_right
  · cases q : H c with
    | none => exact absurd q n
    | some o => exact k c o q
  · cases q : H a with
    | none => exact (r.bt a ha).1 q
    | some o =>
      rw [k a o q] at z
      cases z
      exact r.bl a ha xs q
  have z := r.there (List.mem_of_getElem? h2)
  cases q : H a with
  | none => exact absurd q z
  | some o => rw [k a o q]
theorem HR.new {Y : Wd} {ρ : Rh} {H : Hp} {h : VH} (r : HR Y ρ H h) {p : Addr} {o : HO} (hp : H p = none) : HR Y ρ (upd H p o) h := r.grow fun b u e => by rw [upd_ne (ne_of_none e hp)]; exact e
/-- a new one that may change -/
theorem HR.push {Y : Wd} {ρ : Rh} {H : Hp} {h : VH} (r : HR Y ρ H h) {p : Addr} {o : HO} {vo : VO} (hp : H p = none) (ho : OR Y (ρ.push p) (upd H p o) p vo) : HR Y (ρ.push p) (upd H p o) (h ++ [vo]) := by
  obtain ⟨np, nb⟩ := r.outof hp
  refine ⟨by simp [Rh.push, r.len], ?_, fun a ha => ?_, fun a ha xs z => r.bl a ha xs (by rw [upd_ne (fun e => nb (by rw [← e]; exact ha))] at z; exact z), fun n o' a h1 h2 => ?_, r.tbTo (fun c o n => ⟨fun z => (List.mem_append.mp (show c ∈ ρ.ix ++ [p] from z)).elim o.1 fun y => n ((List.mem_singleton.mp y).symm ▸ hp), o.2⟩) fun c _ n => upd_ne fun z => n (z.symm ▸ hp)⟩
  · show (ρ.ix ++ [p]).Nodup
    rw [List.nodup_append]
    exact ⟨r.nd, by simp, fun a ha b hb z => by rw [List.mem_singleton.mp hb] at z; exact np (z ▸ ha)⟩
  · have hne : a ≠ p := fun z => nb (by rw [← z]; exact ha)
    refine ⟨by rw [upd_ne hne]; exact (r.bt a ha).1, fun z => ?_⟩
    rcases List.mem_append.mp (show a ∈ ρ.ix ++ [p] from z) with z | z
    · exact (r.bt a ha).2 z
    · exact hne (List.mem_singleton.mp z)
  · have h2 : (ρ.ix ++ [p])[n]? = some a := h2
    by_cases hn : n < h.length
    · rw [List.getElem?_append_left hn] at h1
      rw [List.getElem?_append_left (by rw [r.len]; exact hn)] at h2
      refine (r.at_ n o' a h1 h2).same (Ev.newρ hp).toEvR ?_
      exact upd_ne (fun z => np (by rw [← z]; exact List.mem_of_getElem? h2))
    · have e : n = h.length := by
        have := (List.getElem?_eq_some_iff.mp h1).1
        simp at this; omega
      subst e
      rw [List.getElem?_append_right (Nat.le_refl _)] at h1
      rw [List.getElem?_append_right (by rw [r.len]; exact Nat.le_refl _), r.len] at h2
      simp at h1 h2
      subst h1 h2
      exact ho
/-- a change -/
theorem HR.write {Y : Wd} {ρ : Rh} {H : Hp} {h : VH} (r : HR Y ρ H h) {n : Nat} {p : Addr} {o : HO} {vo : VO} (hp : ρ.ix[n]? = some p) (nf : ∀ q u, H p ≠ some (.frz q u)) (ho : OR Y ρ (upd H p o) p vo) : HR Y ρ (upd H p o) (h.set n vo) := by
  have mp := List.mem_of_getElem? hp
  refine ⟨by simp [r.len], r.nd, fun a ha => ⟨(Ev.write (o := o) mp nf).there a (r.bt a ha).1, (r.bt a ha).2⟩, fun a ha xs z => r.bl a ha xs (by rw [upd_ne (fun e => (r.bt a ha).2 (by rw [e]; exact mp))] at z; exact z), fun k o' a h1 h2 => ?_, r.tbTo (fun _ o _ => o) fun c o _ => upd_ne fun z => o.1 (z ▸ mp)⟩
  by_cases hk : k = n
  · subst hk
    have : k < h.length := by
      have := (List.getElem?_eq_some_iff.mp h1).1
      simpa using this
    rw [List.getElem?_set_self this] at h1
    cases h1
    rw [hp] at h2; cases h2
    exact ho
  · rw [List.getElem?_set_ne (Ne.symm hk)] at h1
    refine (r.at_ k o' a h1 h2).same (Ev.write mp nf).toEvR ?_
    refine upd_ne fun z => hk ?_
    subst z
    obtain ⟨a1, e1⟩ := List.getElem?_eq_some_iff.mp hp
    obtain ⟨a2, e2⟩ := List.getElem?_eq_some_iff.mp h2
    exact (List.getElem_inj r.nd).mp (e2.trans e1.symm)
theorem Rh.out_unban {ρ : Rh} {p a : Addr} (h : (ρ.ban p).out a) : ρ.out a := ⟨h.1, fun z => h.2 (List.mem_cons_of_mem _ z)⟩
mutual
theorem Rp.unban {Y : Wd} {ρ : Rh} {H : Hp} {p : Addr} : ∀ {t : T} {v : V}, Rp Y (ρ.ban p) H t v → Rp Y ρ H t v
  | _, _, .non => .non
  | _, _, .bl b => .bl b
  | _, _, .int i => .int i
  | _, _, .str h => .str h
  | _, _, .tup h r => .tup ⟨h.1, h.2.elim (fun z => .inl ⟨Rh.out_unban z.1, z.2⟩) .inr⟩ r.unban
  | _, _, .arg h r => .arg ⟨h.1, h.2.elim (fun z => .inl ⟨Rh.out_unban z.1, z.2⟩) .inr⟩ r.unban
  | _, _, .tpx h r => .tpx (h.to Rh.out_unban fun _ _ => rfl) r.unban
  | _, _, .lst h r => .lst ⟨h.1, Rh.out_unban h.2.1, h.2.2⟩ r.unban
  | _, _, .obj c n h nm r => .obj c (Rh.out_unban n) h nm r.unban
  | _, _, .ref h => .ref h
theorem Rps.unban {Y : Wd} {ρ : Rh} {H : Hp} {p : Addr} : ∀ {ts : List T} {vs : List V}, Rps Y (ρ.ban p) H ts vs → Rps Y ρ H ts vs
  | _, _, .nil => .nil
  | _, _, .cons a b => .cons a.unban b.unban
end
theorem OR.unban {Y : Wd} {ρ : Rh} {H : Hp} {p a : Addr} {o : VO} (r : OR Y (ρ.ban p) H a o) : OR Y ρ H a o := by
  cases o with
  | lst ts => obtain ⟨vs, h1, hz, h2⟩ := r; exact ⟨vs, h1, hz, h2.unban⟩
  | ins c fs => obtain ⟨C, dx, vfs, hc, h1, hn, h2⟩ := r; exact ⟨C, dx, vfs, hc, h1, hn, h2.unban⟩
  | dct kvs => obtain ⟨vk, h1, h2, h3⟩ := r; exact ⟨vk, h1, h2.unban, h3.unban⟩
  | dcT kvs => obtain ⟨vk, h1, h2, h3⟩ := r; exact ⟨vk, h1, h2, h3.unban⟩
  | dcF kvs => obtain ⟨z, vk, h1, h2, h3⟩ := r; exact ⟨z, vk, h1, h2.unban, h3.unban⟩
  | dcN kvs => obtain ⟨xs, h1, h0, h2, h3⟩ := r; exact ⟨xs, h1, h0, h2.unban, h3.unban⟩
  | tab q => exact ⟨r.1, TbAt.to r.2 rfl fun c o z => ⟨Rh.out_unban o, z⟩⟩
theorem HR.unban {Y : Wd} {ρ : Rh} {H : Hp} {h : VH} {p : Addr} (r : HR Y (ρ.ban p) H h) : HR Y ρ H h := ⟨r.len, r.nd, fun a ha => r.bt a (List.mem_cons_of_mem _ ha), fun a ha => r.bl a (List.mem_cons_of_mem _ ha), fun n o a h1 h2 => (r.at_ n o a h1 h2).unban, r.tbTo (fun _ o _ => Rh.out_unban o) fun _ _ _ => rfl⟩
/-- what stood ahead of a fresh thing -/
theorem out_ban {ρ : Rh} {H : Hp} {p a : Addr} (hp : H p = none) (ha : H a ≠ none) (h : ρ.out a) : (ρ.ban p).out a := ⟨h.1, fun z => by
  rcases List.mem_cons.mp z with z | z
  · exact ha (z ▸ hp)
  · exact h.2 z⟩
mutual
theorem Rp.ban {Y : Wd} {ρ : Rh} {H : Hp} {p : Addr} (hp : H p = none) : ∀ {t : T} {v : V}, Rp Y ρ H t v → Rp Y (ρ.ban p) H t v
  | _, _, .non => .non
  | _, _, .bl b => .bl b
  | _, _, .int i => .int i
  | _, _, .str h => .str h
  | _, _, .tup h r => .tup ⟨h.1, h.2.elim (fun z => .inl ⟨out_ban hp (Rd.some z.2) z.1, z.2⟩) .inr⟩ (r.ban hp)
  | _, _, .arg h r => .arg ⟨h.1, h.2.elim (fun z => .inl ⟨out_ban hp (Rd.some z.2) z.1, z.2⟩) .inr⟩ (r.ban hp)
  | _, _, .tpx ⟨l, g, o, hd, hc, h⟩ r => .tpx ⟨l, out_ban hp (by rw [h]; simp) g, o, hd, hc, h⟩ (r.ban hp)
  | _, _, .lst h r => .lst ⟨h.1, out_ban hp (by rw [h.2.2]; simp) h.2.1, h.2.2⟩ (r.ban hp)
  | _, _, .obj c n h nm r => .obj c (out_ban hp (by rw [h]; simp) n) h nm (r.ban hp)
  | _, _, .ref h => .ref h
theorem Rps.ban {Y : Wd} {ρ : Rh} {H : Hp} {p : Addr} (hp : H p = none) : ∀ {ts : List T} {vs : List V}, Rps Y ρ H ts vs → Rps Y (ρ.ban p) H ts vs
  | _, _, .nil => .nil
  | _, _, .cons a b => .cons (a.ban hp) (b.ban hp)
end
theorem OR.ban {Y : Wd} {ρ : Rh} {H : Hp} {p a : Addr} (hp : H p = none) {o : VO} (r : OR Y ρ H a o) : OR Y (ρ.ban p) H a o := by
  cases o with
  | lst ts => obtain ⟨vs, h1, hz, h2⟩ := r; exact ⟨vs, h1, hz, h2.ban hp⟩
  | ins c fs => obtain ⟨C, dx, vfs, hc, h1, hn, h2⟩ := r; exact ⟨C, dx, vfs, hc, h1, hn, h2.ban hp⟩
  | dct kvs => obtain ⟨vk, h1, h2, h3⟩ := r; exact ⟨vk, h1, h2.ban hp, h3.ban hp⟩
  | dcT kvs => obtain ⟨vk, h1, h2, h3⟩ := r; exact ⟨vk, h1, h2, h3.ban hp⟩
  | dcF kvs => obtain ⟨z, vk, h1, h2, h3⟩ := r; exact ⟨z, vk, h1, h2.ban hp, h3.ban hp⟩
  | dcN kvs => obtain ⟨xs, h1, h0, h2, h3⟩ := r; exact ⟨xs, h1, h0, h2.ban hp, h3.ban hp⟩
  | tab q => exact ⟨r.1, TbAt.to r.2 rfl fun c o z => ⟨out_ban hp (by rw [z]; simp) o, z⟩⟩
/-- a change at a banned thing -/
theorem out_ne {ρ : Rh} {p a : Addr} (hp : p ∈ ρ.bn) (h : ρ.out a) : a ≠ p := fun z => h.2 (z ▸ hp)
theorem Rd.updb {ρ : Rh} {H : Hp} {p a : Addr} {o u : HO} (hp : p ∈ ρ.bn) (h : ρ.out a) (r : Rd H a u) : Rd (upd H p o) a u := by
  rcases r with r | ⟨q, r⟩
  · exact .inl (by rw [upd_ne (out_ne hp h)]; exact r)
  · exact .inr ⟨q, by rw [upd_ne (out_ne hp h)]; exact r⟩
mutual
theorem Rp.updb {Y : Wd} {ρ : Rh} {H : Hp} {p : Addr} {o : HO} (hp : p ∈ ρ.bn) : ∀ {t : T} {v : V}, Rp Y ρ H t v → Rp Y ρ (upd H p o) t v
  | _, _, .non => .non
  | _, _, .bl b => .bl b
  | _, _, .int i => .int i
  | _, _, .str h => .str h
  | _, _, .tup h r => .tup ⟨h.1, h.2.elim (fun z => .inl ⟨z.1, Rd.updb hp z.1 z.2⟩) .inr⟩ (r.updb hp)
  | _, _, .arg h r => .arg ⟨h.1, h.2.elim (fun z => .inl ⟨z.1, Rd.updb hp z.1 z.2⟩) .inr⟩ (r.updb hp)
  | _, _, .tpx h r => .tpx (h.to id fun z _ => upd_ne (out_ne hp z)) (r.updb hp)
  | _, _, .lst h r => .lst ⟨h.1, h.2.1, by rw [upd_ne (out_ne hp h.2.1)]; exact h.2.2⟩ (r.updb hp)
  | _, _, .obj c n h nm r => .obj c n (by rw [upd_ne (out_ne hp n)]; exact h) nm (r.updb hp)
  | _, _, .ref h => .ref h
theorem Rps.updb {Y : Wd} {ρ : Rh} {H : Hp} {p : Addr} {o : HO} (hp : p ∈ ρ.bn) : ∀ {ts : List T} {vs : List V}, Rps Y ρ H ts vs → Rps Y ρ (upd H p o) ts vs
  | _, _, .nil => .nil
  | _, _, .cons a b => .cons (a.updb hp) (b.updb hp)
end
theorem HR.updb {Y : Wd} {ρ : Rh} {H : Hp} {h : VH} {p : Addr} {o : HO} (hp : p ∈ ρ.bn) (r : HR Y ρ H h) (nt : ∀ xs, o ≠ .tup xs := by intro xs z; cases z) : HR Y ρ (upd H p o) h := by
  refine ⟨r.len, r.nd, fun a ha => ⟨?_, (r.bt a ha).2⟩, fun a ha xs q => ?_, fun n vo a h1 h2 => ?_, r.tbTo (fun _ o _ => o) fun c o _ => upd_ne (out_ne hp o)⟩
  · by_cases z : a = p
    · rw [z, upd_same]; simp
    · rw [upd_ne z]; exact (r.bt a ha).1
  · by_cases z : a = p
    · rw [z, upd_same] at q
      exact nt xs (Option.some.inj q)
    · rw [upd_ne z] at q
      exact r.bl a ha xs q
  · have ne : a ≠ p := fun z => (r.bt p hp).2 (by rw [← z]; exact List.mem_of_getElem? h2)
    have q := r.at_ n vo a h1 h2
    cases vo with
    | lst ts => obtain ⟨vs, h1, hz, h2⟩ := q; exact ⟨vs, by rw [upd_ne ne]; exact h1, hz, h2.updb hp⟩
    | ins c fs => obtain ⟨C, dx, vfs, hc, h1, hn, h2⟩ := q; exact ⟨C, dx, vfs, hc, by rw [upd_ne ne]; exact h1, hn, h2.updb hp⟩
    | dct kvs => obtain ⟨vk, h1, h2, h3⟩ := q; exact ⟨vk, by rw [upd_ne ne]; exact h1, h2.updb hp, h3.updb hp⟩
    | dcT kvs => obtain ⟨vk, h1, h2, h3⟩ := q; exact ⟨vk, by rw [upd_ne ne]; exact h1, h2, h3.updb hp⟩
    | dcF kvs => obtain ⟨z, vk, h1, h2, h3⟩ := q; exact ⟨z, vk, by rw [upd_ne ne]; exact h1, h2.updb hp, h3.updb hp⟩
    | dcN kvs => obtain ⟨xs, h1, h0, h2, h3⟩ := q; exact ⟨xs, by rw [upd_ne ne]; exact h1, h0, h2.updb hp, h3.updb hp⟩
    | tab nm => exact ⟨q.1, TbAt.to q.2 (upd_ne ne) fun c o z => ⟨o, by rw [upd_ne (out_ne hp o)]; exact z⟩⟩
/-- a fresh thing begins to be built -/
theorem HR.begin {Y : Wd} {ρ : Rh} {H : Hp} {h : VH} {p : Addr} {o : HO} (hp : H p = none) (r : HR Y ρ H h) (nt : ∀ xs, o ≠ .tup xs := by intro xs z; cases z) : HR Y (ρ.ban p) (upd H p o) h := by
  have r2 : HR Y ρ (upd H p o) h := r.new hp
  refine ⟨r2.len, r2.nd, fun a ha => ?_, fun a ha xs q => ?_, fun n vo a h1 h2 => ?_, r.tbTo (fun c o n => out_ban hp n o) fun c _ n => upd_ne fun z => n (z.symm ▸ hp)⟩
  · rcases List.mem_cons.mp ha with z | z
    · rw [z, upd_same]
      exact ⟨by simp, (r.outof hp).1⟩
    · exact r2.bt a z
  · rcases List.mem_cons.mp ha with z | z
    · rw [z, upd_same] at q
      exact nt xs (Option.some.inj q)
    · exact r2.bl a z xs q
  · have ne : a ≠ p := fun z => (r.outof hp).1 (by rw [← z]; exact List.mem_of_getElem? h2)
    have q := (r.at_ n vo a h1 h2).ban hp
    have mb : p ∈ (ρ.ban p).bn := List.mem_cons_self
    cases vo with
    | lst ts => obtain ⟨vs, h1, hz, h2⟩ := q; exact ⟨vs, by rw [upd_ne ne]; exact h1, hz, h2.updb mb⟩
    | ins c fs => obtain ⟨C, dx, vfs, hc, h1, hn, h2⟩ := q; exact ⟨C, dx, vfs, hc, by rw [upd_ne ne]; exact h1, hn, h2.updb mb⟩
    | dct kvs => obtain ⟨vk, h1, h2, h3⟩ := q; exact ⟨vk, by rw [upd_ne ne]; exact h1, h2.updb mb, h3.updb mb⟩
    | dcT kvs => obtain ⟨vk, h1, h2, h3⟩ := q; exact ⟨vk, by rw [upd_ne ne]; exact h1, h2, h3.updb mb⟩
    | dcF kvs => obtain ⟨z, vk, h1, h2, h3⟩ := q; exact ⟨z, vk, by rw [upd_ne ne]; exact h1, h2.updb mb, h3.updb mb⟩
    | dcN kvs => obtain ⟨xs, h1, h0, h2, h3⟩ := q; exact ⟨xs, by rw [upd_ne ne]; exact h1, h0, h2.updb mb, h3.updb mb⟩
    | tab nm => exact ⟨q.1, TbAt.to q.2 (upd_ne ne) fun c o z => ⟨o, by rw [upd_ne (out_ne mb o)]; exact z⟩⟩
/-- what was built may change from now on -/
theorem Rh.out_push {ρ : Rh} {p a : Addr} (z : (ρ.ban p).out a) : (ρ.push p).out a := ⟨fun zz => by
  rcases List.mem_append.mp (show a ∈ ρ.ix ++ [p] from zz) with y | y
  · exact z.1 y
  · exact z.2 (by rw [List.mem_singleton.mp y]; exact List.mem_cons_self), fun zz => z.2 (List.mem_cons_of_mem _ zz)⟩
mutual
theorem Rp.topush {Y : Wd} {ρ : Rh} {H : Hp} {p : Addr} : ∀ {t : T} {v : V}, Rp Y (ρ.ban p) H t v → Rp Y (ρ.push p) H t v
  | _, _, .non => .non
  | _, _, .bl b => .bl b
  | _, _, .int i => .int i
  | _, _, .str h => .str h
  | _, _, .tup h r => .tup ⟨h.1, h.2.elim (fun z => .inl ⟨Rh.out_push z.1, z.2⟩) .inr⟩ r.topush
  | _, _, .arg h r => .arg ⟨h.1, h.2.elim (fun z => .inl ⟨Rh.out_push z.1, z.2⟩) .inr⟩ r.topush
  | _, _, .tpx h r => .tpx (h.to Rh.out_push fun _ _ => rfl) r.topush
  | _, _, .lst h r => .lst ⟨h.1, Rh.out_push h.2.1, h.2.2⟩ r.topush
  | _, _, .obj c n h nm r => .obj c (Rh.out_push n) h nm r.topush
  | _, _, .ref h => .ref (by
    have h' : ρ.ix[_]? = some _ := h
    show (ρ.ix ++ [p])[_]? = _
    rw [List.getElem?_append_left (List.getElem?_eq_some_iff.mp h').1]; exact h')
theorem Rps.topush {Y : Wd} {ρ : Rh} {H : Hp} {p : Addr} : ∀ {ts : List T} {vs : List V}, Rps Y (ρ.ban p) H ts vs → Rps Y (ρ.push p) H ts vs
  | _, _, .nil => .nil
  | _, _, .cons a b => .cons a.topush b.topush
end
theorem HR.topush {Y : Wd} {ρ : Rh} {H : Hp} {h : VH} {p : Addr} {vo : VO} (hp : p ∉ ρ.bn) (r : HR Y (ρ.ban p) H h) (ho : OR Y (ρ.push p) H p vo) : HR Y (ρ.push p) H (h ++ [vo]) := by
  have nix : p ∉ ρ.ix := (r.bt p List.mem_cons_self).2
  refine ⟨?_, ?_, fun a ha => ?_, r.unban.bl, fun n o a q1 q2 => ?_, r.tbTo (fun _ o _ => Rh.out_push o) fun _ _ _ => rfl⟩
  · have z : ρ.ix.length = h.length := r.len
    show (ρ.ix ++ [p]).length = (h ++ [vo]).length
    simp [z]
  · show (ρ.ix ++ [p]).Nodup
    rw [List.nodup_append]
    exact ⟨r.nd, by simp, fun a ha b hb z => by rw [List.mem_singleton.mp hb] at z; exact nix (z ▸ ha)⟩
  · have ha : a ∈ ρ.bn := ha
    refine ⟨(r.unban.bt a ha).1, fun z => ?_⟩
    rcases List.mem_append.mp (show a ∈ ρ.ix ++ [p] from z) with z | z
    · exact (r.unban.bt a ha).2 z
    · rw [List.mem_singleton.mp z] at ha
      exact hp ha
  · have q2 : (ρ.ix ++ [p])[n]? = some a := q2
    have hlen : ρ.ix.length = h.length := r.len
    by_cases hn : n < ρ.ix.length
    · rw [List.getElem?_append_left (by rw [← hlen]; exact hn)] at q1
      rw [List.getElem?_append_left hn] at q2
      have q := r.at_ n o a q1 q2
      cases o with
      | lst us => obtain ⟨ws', b1, b2, b3⟩ := q; exact ⟨ws', b1, b2, b3.topush⟩
      | ins cc fs => obtain ⟨C, dx, vfs, b0, b1, b2, b3⟩ := q; exact ⟨C, dx, vfs, b0, b1, b2, b3.topush⟩
      | dct kvs => obtain ⟨vk, b1, b2, b3⟩ := q; exact ⟨vk, b1, b2.topush, b3.topush⟩
      | dcT kvs => obtain ⟨vk, b1, b2, b3⟩ := q; exact ⟨vk, b1, b2, b3.topush⟩
      | dcF kvs => obtain ⟨z, vk, b1, b2, b3⟩ := q; exact ⟨z, vk, b1, b2.topush, b3.topush⟩
      | dcN kvs => obtain ⟨xs, b1, b0, b2, b3⟩ := q; exact ⟨xs, b1, b0, b2.topush, b3.topush⟩
      | tab nm => exact ⟨q.1, TbAt.to q.2 rfl fun c o z => ⟨Rh.out_push o, z⟩⟩
    · have en : n = ρ.ix.length := by
        have z := (List.getElem?_eq_some_iff.mp q2).1
        simp at z; omega
      rw [en, List.getElem?_append_right (Nat.le_refl _)] at q2
      rw [en, hlen, List.getElem?_append_right (Nat.le_refl _)] at q1
      simp at q1 q2
      subst q1 q2
      exact ho
/-- the slots -/
def Sl (Y : Wd) (ρ : Rh) (H : Hp) (τ : TS_) (σ : St) : Prop := τ.length = σ.length ∧ ∀ (i : Nat) (t : T), τ[i]? = some (some t) → ∃ v, σ[i]? = some (some v) ∧ Rp Y ρ H t v
theorem Sl.ev {Y : Wd} {ρ ρ' : Rh} {H H' : Hp} {τ : TS_} {σ : St} (e : EvR ρ H ρ' H') (s : Sl Y ρ H τ σ) : Sl Y ρ' H' τ σ := ⟨s.1, fun i t h => let ⟨v, a, b⟩ := s.2 i t h; ⟨v, a, b.ev e⟩⟩
theorem Sl.set {Y : Wd} {ρ : Rh} {H : Hp} {τ : TS_} {σ : St} (s : Sl Y ρ H τ σ) {t : T} {v : V} (i : Nat) (r : Rp Y ρ H t v) : Sl Y ρ H (τ.set i (some t)) (σ.set i (some v)) := by
  refine ⟨by simp [s.1], fun j t' h => ?_⟩
  by_cases hj : i = j
  · subst hj
    have hi : i < τ.length := by
      have := (List.getElem?_eq_some_iff.mp h).1
      simpa using this
    rw [List.getElem?_set_self hi] at h
    cases h
    exact ⟨v, List.getElem?_set_self (by rw [← s.1]; exact hi), r⟩
  · rw [List.getElem?_set_ne hj] at h ⊢
    exact s.2 j t' h
/-- what a reading of a mirror's expression asks -/
structure Go (Y : Wd) (ρ : Rh) (H : Hp) (τ : TS_) (σ : St) (h : VH) : Prop where
  sl : Sl Y ρ H τ σ
  hr : HR Y ρ H h
/-- behind an expression -/
structure To {α β : Type} (Y : Wd) (R : Rh → Hp → α → β → Prop) (ρ : Rh) (H : Hp) (t : α) (h' : VH) (Q : β → Hp → Prop) : Prop where
  to : ∀ ρ' H' v, Ev ρ H ρ' H' → HR Y ρ' H' h' → R ρ' H' t v → Q v H'
def TM (Y : Wd) (f : ME) : TE := fun σ H Q => ∃ ρ τ h t h', Go Y ρ H τ σ h ∧ f τ h = .ok t h' ∧ To Y (Rp Y) ρ H t h' Q
def TMA (Y : Wd) (f : MA) : TA := fun σ H Q => ∃ ρ τ h t h', Go Y ρ H τ σ h ∧ f τ h = .ok t h' ∧ To Y (Rps Y) ρ H t h' Q
def TMB (Y : Wd) (f : MB) : TT := fun σ H Q => ∃ ρ τ h t h', Go Y ρ H τ σ h ∧ f τ h = .ok t h' ∧ To Y (fun _ _ a b => a = b) ρ H t h' Q
/-- behind a statement -/
def OutTo (Y : Wd) (ρ : Rh) (H : Hp) (o : Out) (D : Ends) : Prop := match o with
  | .nx τ h => ∀ ρ' H' σ, Ev ρ H ρ' H' → HR Y ρ' H' h → Sl Y ρ' H' τ σ → D.nx σ H'
  | .bk τ h => ∀ ρ' H' σ, Ev ρ H ρ' H' → HR Y ρ' H' h → Sl Y ρ' H' τ σ → D.bk σ H'
  | .ct τ h => ∀ ρ' H' σ, Ev ρ H ρ' H' → HR Y ρ' H' h → Sl Y ρ' H' τ σ → D.ct σ H'
  | .rt t h => ∀ ρ' H' v, Ev ρ H ρ' H' → HR Y ρ' H' h → Rp Y ρ' H' t v → D.rt v H'
  | .bad => False
def TMS (Y : Wd) (f : MS) : TS := fun D σ H => ∃ ρ τ h, Go Y ρ H τ σ h ∧ OutTo Y ρ H (f τ h) D
theorem To.ev {α β : Type} {Y : Wd} {R : Rh → Hp → α → β → Prop} {ρ ρ1 : Rh} {H H1 : Hp} {t : α} {h' : VH} {Q : β → Hp → Prop} (e : Ev ρ H ρ1 H1) (g : To Y R ρ H t h' Q) : To Y R ρ1 H1 t h' Q :=
  ⟨fun ρ' H' v e1 hr r => g.to ρ' H' v (e.trans e1) hr r⟩
theorem OutTo.ev {Y : Wd} {ρ ρ1 : Rh} {H H1 : Hp} {o : Out} {D : Ends} (e : Ev ρ H ρ1 H1) (g : OutTo Y ρ H o D) : OutTo Y ρ1 H1 o D := by
  cases o with
  | nx τ h => exact fun ρ' H' σ e1 => g ρ' H' σ (e.trans e1)
  | bk τ h => exact fun ρ' H' σ e1 => g ρ' H' σ (e.trans e1)
  | ct τ h => exact fun ρ' H' σ e1 => g ρ' H' σ (e.trans e1)
  | rt τ h => exact fun ρ' H' σ e1 => g ρ' H' σ (e.trans e1)
  | bad => exact g
theorem Go.ev {Y : Wd} {ρ ρ1 : Rh} {H H1 : Hp} {τ : TS_} {σ : St} {h h1 : VH} (g : Go Y ρ H τ σ h) (e : Ev ρ H ρ1 H1) (hr : HR Y ρ1 H1 h1) : Go Y ρ1 H1 τ σ h1 := ⟨g.sl.ev e.toEvR, hr⟩
theorem pe_imp {X : Cx} {e : Expr} {t t' : TE} (h : PE X e t) (i : ∀ σ H Q, t' σ H Q → t σ H Q) : PE X e t' := ⟨fun pins s σ H Q I q => h.run pins s σ H Q I (i _ _ _ q)⟩
theorem pt_imp {X : Cx} {e : Expr} {t t' : TT} (h : PT X e t) (i : ∀ σ H Q, t' σ H Q → t σ H Q) : PT X e t' := ⟨fun pins s σ H Q I q => h.run pins s σ H Q I (i _ _ _ q)⟩
theorem pa_imp {X : Cx} {e : List Expr} {t t' : TA} (h : PA X e t) (i : ∀ σ H Q, t' σ H Q → t σ H Q) : PA X e t' := ⟨fun pos pins s σ H Q I q => h.run pos pins s σ H Q I (i _ _ _ q)⟩
theorem ps_imp {X : Cx} {e : Stmt} {t t' : TS} (h : PS X e t) (i : ∀ D σ H, t' D σ H → t D σ H) : PS X e t' := ⟨fun pins s σ H D I q => h.run pins s σ H D I (i _ _ _ q)⟩
theorem pss_imp {X : Cx} {e : List Stmt} {t t' : TS} (h : PSs X e t) (i : ∀ D σ H, t' D σ H → t D σ H) : PSs X e t' := ⟨fun pins s σ H D I q => h.run pins s σ H D I (i _ _ _ q)⟩
end TL
set_option Elab.async false
set_option linter.all false
set_option maxRecDepth 100000
set_option maxHeartbeats 4000000
namespace TL
open PySem PySem.Spec L2
def listOf (h : VH) : T → Option (List T)
  | .lst ts => some ts
  | .ref n => match h[n]? with
    | some (.lst ts) => some ts
    | _ => none
  | _ => none
def tupOf : T → Option (List T)
  | .tup ts => some ts
  | _ => none
def seqOf (h : VH) : T → Option (List T)
  | .tup ts => some ts
  | .arg ts => some ts
  | t => listOf h t
theorem listOf_ok' {Y : Wd} {ρ : Rh} {H : Hp} {h : VH} {t : T} {v : V} {ts : List T} (r : Rp Y ρ H t v) (hr : HR Y ρ H h) (e : listOf h t = some ts) : ∃ a vs, v = .ref a ∧ H a = some (.lst vs) ∧ vs.length ≤ sizeLine ∧ Rps Y ρ H ts vs := by
  cases r with
  | lst la rs => simp only [listOf, Option.some.injEq] at e; subst e; exact ⟨_, _, rfl, la.2.2, la.1, rs⟩
  | @ref n a ha =>
    simp only [listOf] at e
    cases q : h[n]? with
    | none => rw [q] at e; cases e
    | some o =>
      rw [q] at e
      cases o with
      | lst us =>
        simp only [Option.some.injEq] at e; subst e
        obtain ⟨vs, h1, hz, h2⟩ := hr.at_ n _ a q ha
        exact ⟨_, vs, rfl, h1, hz, h2⟩
      | ins c fs => cases e
      | dct kvs => cases e
      | dcT kvs => cases e
      | dcF kvs => cases e
      | dcN kvs => cases e
      | tab q => cases e
  | _ => cases e
theorem listOf_ok {Y : Wd} {ρ : Rh} {H : Hp} {h : VH} {t : T} {v : V} {ts : List T} (r : Rp Y ρ H t v) (hr : HR Y ρ H h) (e : listOf h t = some ts) : ∃ a vs, v = .ref a ∧ SqL Y.K H a vs ∧ vs.length ≤ sizeLine ∧ Rps Y ρ H ts vs :=
  let ⟨a, vs, e1, e2, e3, e4⟩ := listOf_ok' r hr e
  ⟨a, vs, e1, .inl (.inl e2), e3, e4⟩
theorem tupOf_ok {Y : Wd} {ρ : Rh} {H : Hp} {t : T} {v : V} {ts : List T} (r : Rp Y ρ H t v) (e : tupOf t = some ts) : ∃ a vs, v = .ref a ∧ SqT Y.K H a vs ∧ vs.length ≤ sizeLine ∧ Rps Y ρ H ts vs := by
  cases r with
  | tup la rs => simp only [tupOf, Option.some.injEq] at e; subst e; exact ⟨_, _, rfl, la.sq, la.1, rs⟩
  | _ => cases e
theorem seqOf_ok {Y : Wd} {ρ : Rh} {H : Hp} {h : VH} {t : T} {v : V} {ts : List T} (r : Rp Y ρ H t v) (hr : HR Y ρ H h) (e : seqOf h t = some ts) : ∃ a vs, v = .ref a ∧ (SqL Y.K H a vs ∨ SqT Y.K H a vs) ∧ vs.length ≤ sizeLine ∧ Rps Y ρ H ts vs := by
  cases r with
  | tup la rs => simp only [seqOf, Option.some.injEq] at e; subst e; exact ⟨_, _, rfl, .inr la.sq, la.1, rs⟩
  | arg la rs => simp only [seqOf, Option.some.injEq] at e; subst e; exact ⟨_, _, rfl, .inl la.sq, la.1, rs⟩
  | lst la rs =>
    obtain ⟨a, vs, e1, e2, e3, e4⟩ := listOf_ok (.lst la rs) hr (show listOf h _ = some ts from e)
    exact ⟨a, vs, e1, .inl e2, e3, e4⟩
  | ref ha =>
    obtain ⟨a, vs, e1, e2, e3, e4⟩ := listOf_ok (.ref ha) hr (show listOf h _ = some ts from e)
    exact ⟨a, vs, e1, .inl e2, e3, e4⟩
  | _ => cases e
section
variable {X : Cx} {Y : Wd}
theorem tma_bind {f : MA} {g : List T → VH → Res T} {σ : St} {H : Hp} {Q : VK} (q : TM Y (fun τ h => match f τ h with | .ok t h1 => g t h1 | .bad => .bad) σ H Q) :
    TMA Y f σ H (fun x H1 => ∃ ρ1 h1 t u h', HR Y ρ1 H1 h1 ∧ Rps Y ρ1 H1 t x ∧ g t h1 = .ok u h' ∧ To Y (Rp Y) ρ1 H1 u h' Q) := by
  obtain ⟨ρ, τ, h, u, h', G, e, to⟩ := q
  cases e1 : f τ h with
  | bad => simp only [e1] at e; cases e
  | ok t h1 =>
    simp only [e1] at e
    exact ⟨ρ, τ, h, t, h1, G, e1, ⟨fun ρ1 H1 v ev hr r => ⟨ρ1, h1, t, u, h', hr, r, e, to.ev ev⟩⟩⟩
def eVar (i : Nat) : ME := fun τ h => match τ[i]? with
  | some (some t) => .ok t h
  | _ => .bad
def eK (t : T) : ME := fun _ h => .ok t h
theorem xVar (i : Nat) {x : Str} {pos : Pos} (hN : X.N[i]? = some x := by rfl) (hv : Vis X.env.scope x := by first | exact Or.inl rfl | exact Or.inr (Or.inl rfl) | exact Or.inr (Or.inr rfl)) (hd : (x == ("__debug__" : Str)) = false := by decide)
    (hcd : (x == ("__classdict__" : Str)) = false := by decide) : PE X (.Name x pos) (TM Y (eVar i)) := by
  refine pe_imp (pe_var (i := i) hN hv hd hcd) fun σ H Q q => ?_
  obtain ⟨ρ, τ, h, t, h', G, e, to⟩ := q
  unfold eVar at e
  split at e
  · rename_i t' et
    cases e
    obtain ⟨v, ev, r⟩ := G.sl.2 i t et
    exact ⟨v, ev, to.to ρ H v .refl G.hr r⟩
  · cases e
theorem tm_k {t : T} {v : V} (r : ∀ ρ H, Rp Y ρ H t v) (σ : St) (H : Hp) (Q : VK) (q : TM Y (eK t) σ H Q) : Q v H := by
  obtain ⟨ρ, τ, h, u, h', G, e, to⟩ := q
  cases e
  exact to.to ρ H v .refl G.hr (r ρ H)
theorem xInt {i : Int} {k : Nat} {pos : Pos} : PE X (.Constant (.int i) k pos) (TM Y (eK (.int i))) := pe_imp pe_int fun σ H Q q => tm_k (fun _ _ => .int i) σ H Q q
theorem xBl {b : Bool} {k : Nat} {pos : Pos} : PE X (.Constant (.bool b) k pos) (TM Y (eK (.bl b))) := pe_imp pe_bl fun σ H Q q => tm_k (fun _ _ => .bl b) σ H Q q
theorem xNon {k : Nat} {pos : Pos} : PE X (.Constant .none k pos) (TM Y (eK .non)) := pe_imp pe_non fun σ H Q q => tm_k (fun _ _ => .non) σ H Q q
theorem xStr {x : Str} {k : Nat} {pos : Pos} (hx : x.length ≤ 1000000 := by decide) : PE X (.Constant (.str x) k pos) (TM Y (eK (.str x))) := pe_imp pe_str fun σ H Q q => tm_k (fun _ _ => .str hx) σ H Q q
def aNil : MA := fun _ h => .ok [] h
def aCons (f : ME) (g : MA) : MA := fun τ h => match f τ h with
  | .ok t h1 => (match g τ h1 with
    | .ok ts h2 => .ok (t :: ts) h2
    | .bad => .bad)
  | .bad => .bad
theorem xaNil : PA X [] (TMA Y aNil) := pa_imp pa_nil fun σ H Q q => by
  obtain ⟨ρ, τ, h, u, h', G, e, to⟩ := q
  cases e
  exact to.to ρ H [] .refl G.hr .nil
theorem xaCons {e : Expr} {es : List Expr} {f : ME} {g : MA} (ha : PE X e (TM Y f)) (hr : PA X es (TMA Y g)) (hs : starEach (e :: es) X.env = (false, eval e X.env) :: starEach es X.env := by rfl) : PA X (e :: es) (TMA Y (aCons f g)) := by
  refine pa_imp (pa_cons ha hr hs) fun σ H Q q => ?_
  obtain ⟨ρ, τ, h, u, h', G, e, to⟩ := q
  unfold aCons at e
  cases e1 : f τ h with
  | bad => simp only [e1] at e; cases e
  | ok t h1 =>
    simp only [e1] at e
    refine ⟨ρ, τ, h, t, h1, G, e1, ⟨fun ρ1 H1 v ev hr1 r => ?_⟩⟩
    cases e2 : g τ h1 with
    | bad => simp only [e2] at e; cases e
    | ok ts h2 =>
      simp only [e2] at e
      cases e
      exact ⟨ρ1, τ, h1, _, _, G.ev ev hr1, e2, ⟨fun ρ2 H2 vs ev2 hr2 rs => to.to ρ2 H2 (v :: vs) (ev.trans ev2) hr2 (.cons (r.ev ev2.toEvR) rs)⟩⟩
/-- a new list -/
def TMF (Y : Wd) (f : MA) : TE := fun σ H Q => ∃ ρ τ h ts h', Go Y ρ H τ σ h ∧ f τ h = .ok ts h' ∧
  ∀ ρ' H' D vs, Ev ρ H ρ' H' → HR Y ρ' H' h' → H D = none → LstAt Y ρ' H' D vs → Rps Y ρ' H' ts vs → HR Y (ρ'.push D) H' (h' ++ [.lst ts]) → Q (.ref D) H'
def eL (f : MA) : ME := fun τ h => match f τ h with
  | .ok ts h' => .ok (.lst ts) h'
  | .bad => .bad
def eH (f : MA) : ME := fun τ h => match f τ h with
  | .ok ts h' => .ok (.ref h'.length) (h' ++ [.lst ts])
  | .bad => .bad
theorem xL {e : Expr} {f : MA} (h : PE X e (TMF Y f)) : PE X e (TM Y (eL f)) := pe_imp h fun σ H Q q => by
  obtain ⟨ρ, τ, h, u, h', G, e, to⟩ := q
  unfold eL at e
  cases e1 : f τ h with
  | bad => simp only [e1] at e; cases e
  | ok ts h1 =>
    simp only [e1] at e
    cases e
    exact ⟨ρ, τ, h, ts, _, G, e1, fun ρ' H' D vs ev hr hD la rs _ => to.to ρ' H' _ ev hr (.lst la rs)⟩
theorem xH {e : Expr} {f : MA} (h : PE X e (TMF Y f)) : PE X e (TM Y (eH f)) := pe_imp h fun σ H Q q => by
  obtain ⟨ρ, τ, h, u, h', G, e, to⟩ := q
  unfold eH at e
  cases e1 : f τ h with
  | bad => simp only [e1] at e; cases e
  | ok ts h1 =>
    simp only [e1] at e
    cases e
    refine ⟨ρ, τ, h, ts, h1, G, e1, fun ρ' H' D vs ev hr hD la rs hp => to.to (ρ'.push D) H' _ (.mk' ?_ ev.bn ev.keep ev.there ev.fz) hp (.ref ?_)⟩
    · obtain ⟨m, em, hm⟩ := ev.more
      refine ⟨m ++ [D], by simp [Rh.push, em], fun p hp => ?_⟩
      rcases List.mem_append.mp hp with z | z
      · exact hm p z
      · rw [List.mem_singleton.mp z]; exact hD
    · show (ρ'.ix ++ [D])[_]? = _
      rw [List.getElem?_append_right (by rw [hr.len]; exact Nat.le_refl _), hr.len]
      simp
theorem newL {Y : Wd} {ρ : Rh} {H : Hp} {h : VH} {ts : List T} {vs : List V} {D : Addr} (hr : HR Y ρ H h) (rs : Rps Y ρ H ts vs) (hz : vs.length ≤ sizeLine) (hD : H D = none) :
    HR Y ρ (upd H D (.lst vs)) h ∧ LstAt Y ρ (upd H D (.lst vs)) D vs ∧ Rps Y ρ (upd H D (.lst vs)) ts vs ∧ HR Y (ρ.push D) (upd H D (.lst vs)) (h ++ [.lst ts]) :=
  ⟨hr.new hD, ⟨hz, hr.outof hD, upd_same⟩, rs.ev (Ev.new hD).toEvR, hr.push hD ⟨vs, upd_same, hz, rs.ev (Ev.newρ hD).toEvR⟩⟩
def aLim (f : MA) : MA := fun τ h => match f τ h with
  | .ok ts h' => if ts.length ≤ 16777216 then .ok ts h' else .bad
  | .bad => .bad
theorem xLst {es : List Expr} {g : MA} {pos : Pos} (ha : PA X es (TMA Y g)) : PE X (.List es pos) (TMF Y (aLim g)) := pe_imp (pe_lst ha) fun σ H Q q => by
  obtain ⟨ρ, τ, h, u, h', G, e, to⟩ := q
  unfold aLim at e
  cases e1 : g τ h with
  | bad => simp only [e1] at e; cases e
  | ok ts h1 =>
    simp only [e1] at e
    split at e
    · rename_i hl
      cases e
      refine ⟨ρ, τ, h, _, _, G, e1, ⟨fun ρ1 H1 vs ev hr rs => ⟨by rw [rs.length, sizeLine_eq]; exact hl, fun p hp => ?_⟩⟩⟩
      obtain ⟨n1, n2, n3, n4⟩ := newL hr rs (by rw [rs.length, sizeLine_eq]; exact hl) hp
      refine to ρ1 _ p vs (ev.trans (Ev.new hp)) n1 ?_ n2 n3 n4
      exact ev.fresh hp
    · cases e
def eTup (g : MA) : ME := fun τ h => match g τ h with
  | .ok ts h' => if ts.length ≤ 16777216 then .ok (.tup ts) h' else .bad
  | .bad => .bad
theorem newT {Y : Wd} {ρ : Rh} {H : Hp} {h : VH} {ts : List T} {vs : List V} {D : Addr} (hr : HR Y ρ H h) (rs : Rps Y ρ H ts vs) (hz : vs.length ≤ sizeLine) (hD : H D = none) :
    HR Y ρ (upd H D (.tup vs)) h ∧ Rp Y ρ (upd H D (.tup vs)) (.tup ts) (.ref D) :=
  ⟨hr.new hD, .tup ⟨hz, .inl ⟨hr.outof hD, .inl upd_same⟩⟩ (rs.ev (Ev.new hD).toEvR)⟩
theorem xTup {es : List Expr} {g : MA} {pos : Pos} {x1} (ha : PA X es (TMA Y g)) : PE X (.Tuple es x1 pos) (TM Y (eTup g)) := pe_imp (pe_tup ha) fun σ H Q q => by
  obtain ⟨ρ, τ, h, u, h', G, e, to⟩ := q
  unfold eTup at e
  cases e1 : g τ h with
  | bad => simp only [e1] at e; cases e
  | ok ts h1 =>
    simp only [e1] at e
    split at e
    · rename_i hl
      cases e
      refine ⟨ρ, τ, h, _, _, G, e1, ⟨fun ρ1 H1 vs ev hr rs => ⟨by rw [rs.length, sizeLine_eq]; exact hl, fun p hp => ?_⟩⟩⟩
      obtain ⟨n1, n2⟩ := newT hr rs (by rw [rs.length, sizeLine_eq]; exact hl) hp
      exact to.to ρ1 _ _ (ev.trans (Ev.new hp)) n1 n2
    · cases e
/-- a reading of arguments' values keeps what b says -/
def CT (Y : Wd) (r : List V → Hp → VK → Prop) (b : List T → VH → Res T) : Prop := ∀ ρ H ts vs h t h' Q, Rps Y ρ H ts vs → HR Y ρ H h → b ts h = .ok t h' → To Y (Rp Y) ρ H t h' Q → r vs H Q
def eCall (b : List T → VH → Res T) (g : MA) : ME := fun τ h => match g τ h with
  | .ok ts h1 => b ts h1
  | .bad => .bad
theorem tm_call {r : List V → Hp → VK → Prop} {b : List T → VH → Res T} (ct : CT Y r b) {g : MA} {σ : St} {H : Hp} {Q : VK} (q : TM Y (eCall b g) σ H Q) : TMA Y g σ H fun vs H1 => r vs H1 Q := by
  obtain ⟨ρ, τ, h, t, h1, G, e, to⟩ := tma_bind (show TM Y (fun τ h => match g τ h with | .ok t h1 => b t h1 | .bad => .bad) σ H Q from q)
  refine ⟨ρ, τ, h, t, h1, G, e, ⟨fun ρ1 H1 v ev hr rs => ?_⟩⟩
  obtain ⟨ρ2, h2, t2, u, h3, hr2, rs2, e2, to2⟩ := to.to ρ1 H1 v ev hr rs
  exact ct ρ2 H1 t2 v h2 u h3 Q rs2 hr2 e2 to2
/-- a two-place operation -/
def OT (Y : Wd) (r : R2) (b : T → T → VH → Res T) : Prop := ∀ ρ H t1 t2 v1 v2 h t h' Q, Rp Y ρ H t1 v1 → Rp Y ρ H t2 v2 → HR Y ρ H h → b t1 t2 h = .ok t h' → To Y (Rp Y) ρ H t h' Q → r v1 v2 H Q
def eOp (b : T → T → VH → Res T) (f g : ME) : ME := fun τ h => match f τ h with
  | .ok t h1 => (match g τ h1 with
    | .ok u h2 => b t u h2
    | .bad => .bad)
  | .bad => .bad
theorem tm_op {r : R2} {b : T → T → VH → Res T} (ot : OT Y r b) {f g : ME} {σ : St} {H : Hp} {Q : VK} (q : TM Y (eOp b f g) σ H Q) : TM Y f σ H fun x H1 => TM Y g σ H1 fun y H2 => r x y H2 Q := by
  obtain ⟨ρ, τ, h, u, h', G, e, to⟩ := q
  unfold eOp at e
  cases e1 : f τ h with
  | bad => simp only [e1] at e; cases e
  | ok t h1 =>
    simp only [e1] at e
    refine ⟨ρ, τ, h, t, h1, G, e1, ⟨fun ρ1 H1 v ev hr1 r1 => ?_⟩⟩
    cases e2 : g τ h1 with
    | bad => simp only [e2] at e; cases e
    | ok s h2 =>
      simp only [e2] at e
      exact ⟨ρ1, τ, h1, s, h2, G.ev ev hr1, e2, ⟨fun ρ2 H2 w ev2 hr2 r2 => ot ρ2 H2 t s v w h2 u h' Q (r1.ev ev2.toEvR) r2 hr2 e (to.ev (ev.trans ev2))⟩⟩
theorem xOp {op : Operator} {r : R2} {b : T → T → VH → Res T} (ot : OT Y r b) {a c : Expr} {f g : ME} {pos : Pos} (ho : OpR X (binaryOp op) r) (ha : PE X a (TM Y f)) (hb : PE X c (TM Y g)) : PE X (.BinOp a op c pos) (TM Y (eOp b f g)) :=
  pe_imp (pe_op ho ha hb) fun σ H Q q => tm_op ot q
theorem xCmp {op : CmpOp} {r : R2} {b : T → T → VH → Res T} (ot : OT Y r b) {a c : Expr} {f g : ME} {pos : Pos} (ho : OpR X (compareOp op) r) (ha : PE X a (TM Y f)) (hb : PE X c (TM Y g)) (hm : behindInMarks op c = false := by first | exact nomark _ | rfl) : PE X (.Compare a [op] [c] pos) (TM Y (eOp b f g)) :=
  pe_imp (pe_cmpR ho ha hb hm) fun σ H Q q => tm_op ot q
theorem xCallB {id : String} {x : Str} {r : List V → Hp → VK → Prop} {b : List T → VH → Res T} (ct : CT Y r b) {e : Expr} {es : List Expr} {g : MA} {p pos : Pos} (hc : CallR X (.builtin id) r) (hg : Gl X x) (hm : X.mg x = none) (hv : bootBuiltins x = some (.builtin id)) (ha : PA X (e :: es) (TMA Y g)) (hn : x ≠ "__name__" := by decide) (hdb : (x == ("__debug__" : Str)) = false := by decide)
    (he : starEach (e :: es) X.env = (false, eval e X.env) :: starEach es X.env := by rfl) (hpl : (backTo pos (starEach es X.env)).any (·.1) = false := by rfl) :
    PE X (.Call (.Name x p) (e :: es) [] pos) (TM Y (eCall b g)) := pe_imp (pe_callB hc hg hm hv ha hn hdb he hpl) fun σ H Q q => tm_call ct q
theorem xCallTy {T' : String} {x : Str} {r : List V → Hp → VK → Prop} {b : List T → VH → Res T} (ct : CT Y r b) {e : Expr} {es : List Expr} {g : MA} {p pos : Pos} (hc : CallR X (.type T') r) (hg : Gl X x) (hm : X.mg x = none) (hv : bootBuiltins x = some (.type T')) (ha : PA X (e :: es) (TMA Y g)) (hn : x ≠ "__name__" := by decide) (hdb : (x == ("__debug__" : Str)) = false := by decide)
    (he : starEach (e :: es) X.env = (false, eval e X.env) :: starEach es X.env := by rfl) (hpl : (backTo pos (starEach es X.env)).any (·.1) = false := by rfl) :
    PE X (.Call (.Name x p) (e :: es) [] pos) (TM Y (eCall b g)) := pe_imp (pe_callTy hc hg hm hv ha hn hdb he hpl) fun σ H Q q => tm_call ct q
def bTest (f : ME) : MB := fun τ h => match f τ h with
  | .ok (.bl b) h1 => .ok b h1
  | _ => .bad
theorem xtVal {e : Expr} {f : ME} (h : PE X e (TM Y f)) (he : ∀ whole, isTrue e X.env whole = (do let v ← whole; standAt e.pos; holding [v] (truthy v)) := by intro _; rfl) : PT X e (TMB Y (bTest f)) := pt_imp (pt_val h he) fun σ H Q q => by
  obtain ⟨ρ, τ, h, u, h', G, e, to⟩ := q
  unfold bTest at e
  split at e
  · rename_i b h1 e1
    cases e
    refine ⟨ρ, τ, h, _, _, G, e1, ⟨fun ρ1 H1 v ev hr r => ?_⟩⟩
    cases r
    exact ⟨_, rfl, to.to ρ1 H1 _ ev hr rfl⟩
  · cases e
theorem xtCmp {op : CmpOp} {r : R2} {b : T → T → VH → Res T} (ot : OT Y r b) {a c : Expr} {f g : ME} {pos : Pos} (ho : OpR X (compareOp op) r) (ha : PE X a (TM Y f)) (hb : PE X c (TM Y g)) (hm : behindInMarks op c = false := by first | exact nomark _ | rfl) : PT X (.Compare a [op] [c] pos) (TMB Y (bTest (eOp b f g))) :=
  pt_imp (pt_cmpR ho ha hb hm) fun σ H Q q => by
    obtain ⟨ρ, τ, h, u, h', G, e, to⟩ := q
    refine tm_op ot (Q := fun x H' => ∃ k, x = .bl k ∧ Q k H') ?_
    unfold bTest at e
    split at e
    · rename_i b h1 e1
      cases e
      refine ⟨ρ, τ, h, _, _, G, e1, ⟨fun ρ1 H1 v ev hr r => ?_⟩⟩
      cases r
      exact ⟨_, rfl, to.to ρ1 H1 _ ev hr rfl⟩
    · cases e
def bAnd (c d : MB) : MB := fun τ h => match c τ h with
  | .ok true h1 => d τ h1
  | .ok false h1 => .ok false h1
  | .bad => .bad
def bOr (c d : MB) : MB := fun τ h => match c τ h with
  | .ok true h1 => .ok true h1
  | .ok false h1 => d τ h1
  | .bad => .bad
def bNot (c : MB) : MB := fun τ h => match c τ h with
  | .ok b h1 => .ok (!b) h1
  | .bad => .bad
theorem pw_imp {e : Expr} {t t' : TT} (h : PW X e t) (i : ∀ σ H Q, t' σ H Q → t σ H Q) : PW X e t' := ⟨fun wh pins s σ H Q I q => h.run wh pins s σ H Q I (i _ _ _ q)⟩
theorem xwAnd1 {a : Expr} {c : MB} {pos : Pos} (h : PT X a (TMB Y c)) : PW X (.BoolOp .And [a] pos) (TMB Y c) := pw_and1 h
theorem xwOr1 {a : Expr} {c : MB} {pos : Pos} (h : PT X a (TMB Y c)) : PW X (.BoolOp .Or [a] pos) (TMB Y c) := pw_or1 h
theorem xwAnd {a b : Expr} {rest : List Expr} {c d : MB} {pos : Pos} (ha : PT X a (TMB Y c)) (hb : PW X (.BoolOp .And (b :: rest) pos) (TMB Y d)) : PW X (.BoolOp .And (a :: b :: rest) pos) (TMB Y (bAnd c d)) := pw_imp (pw_and ha hb) fun σ H Q q => by
  obtain ⟨ρ, τ, h, u, h', G, e, to⟩ := q
  unfold bAnd at e
  split at e
  · rename_i h1 e1
    exact ⟨ρ, τ, h, true, h1, G, e1, ⟨fun ρ1 H1 k ev hr ek => by subst ek; exact iteT ⟨ρ1, τ, h1, u, h', G.ev ev hr, e, to.ev ev⟩⟩⟩
  · rename_i h1 e1
    cases e
    exact ⟨ρ, τ, h, false, _, G, e1, ⟨fun ρ1 H1 k ev hr ek => by subst ek; exact iteF (to.to ρ1 H1 false ev hr rfl)⟩⟩
  · cases e
theorem xwOr {a b : Expr} {rest : List Expr} {c d : MB} {pos : Pos} (ha : PT X a (TMB Y c)) (hb : PW X (.BoolOp .Or (b :: rest) pos) (TMB Y d)) : PW X (.BoolOp .Or (a :: b :: rest) pos) (TMB Y (bOr c d)) := pw_imp (pw_or ha hb) fun σ H Q q => by
  obtain ⟨ρ, τ, h, u, h', G, e, to⟩ := q
  unfold bOr at e
  split at e
  · rename_i h1 e1
    cases e
    exact ⟨ρ, τ, h, true, _, G, e1, ⟨fun ρ1 H1 k ev hr ek => by subst ek; exact iteT (to.to ρ1 H1 true ev hr rfl)⟩⟩
  · rename_i h1 e1
    exact ⟨ρ, τ, h, false, h1, G, e1, ⟨fun ρ1 H1 k ev hr ek => by subst ek; exact iteF ⟨ρ1, τ, h1, u, h', G.ev ev hr, e, to.ev ev⟩⟩⟩
  · cases e
theorem xtW {e : Expr} {c : MB} (h : PW X e (TMB Y c)) : PT X e (TMB Y c) := h.pt
theorem xtNot {a : Expr} {c : MB} {pos : Pos} (h : PT X a (TMB Y c)) : PT X (.UnaryOp .Not a pos) (TMB Y (bNot c)) := pt_imp (pt_not h) fun σ H Q q => by
  obtain ⟨ρ, τ, h, u, h', G, e, to⟩ := q
  unfold bNot at e
  split at e
  · rename_i b h1 e1
    cases e
    exact ⟨ρ, τ, h, b, _, G, e1, ⟨fun ρ1 H1 k ev hr ek => by subst ek; exact to.to ρ1 H1 _ ev hr rfl⟩⟩
  · cases e
def eIf (c : MB) (f g : ME) : ME := fun τ h => match c τ h with
  | .ok true h1 => f τ h1
  | .ok false h1 => g τ h1
  | .bad => .bad
theorem xIf {c a b : Expr} {m : MB} {f g : ME} {pos : Pos} (hc : PT X c (TMB Y m)) (ha : PE X a (TM Y f)) (hb : PE X b (TM Y g)) : PE X (.IfExp c a b pos) (TM Y (eIf m f g)) := pe_imp (pe_ifExp hc ha hb) fun σ H Q q => by
  obtain ⟨ρ, τ, h, u, h', G, e, to⟩ := q
  unfold eIf at e
  split at e
  · rename_i h1 e1
    exact ⟨ρ, τ, h, true, h1, G, e1, ⟨fun ρ1 H1 k ev hr ek => by subst ek; exact iteT ⟨ρ1, τ, h1, u, h', G.ev ev hr, e, to.ev ev⟩⟩⟩
  · rename_i h1 e1
    exact ⟨ρ, τ, h, false, h1, G, e1, ⟨fun ρ1 H1 k ev hr ek => by subst ek; exact iteF ⟨ρ1, τ, h1, u, h', G.ev ev hr, e, to.ev ev⟩⟩⟩
  · cases e
def eAnd (f g : ME) : ME := fun τ h => match f τ h with
  | .ok (.bl true) h1 => g τ h1
  | .ok (.bl false) h1 => .ok (.bl false) h1
  | _ => .bad
def eOr (f g : ME) : ME := fun τ h => match f τ h with
  | .ok (.bl true) h1 => .ok (.bl true) h1
  | .ok (.bl false) h1 => g τ h1
  | _ => .bad
def eNot (f : ME) : ME := fun τ h => match f τ h with
  | .ok (.bl b) h1 => .ok (.bl (!b)) h1
  | _ => .bad
theorem xOne {op : BoolOp} {a : Expr} {f : ME} {pos : Pos} (h : PE X a (TM Y f)) : PE X (.BoolOp op [a] pos) (TM Y f) := pe_one h
theorem xAnd {a b : Expr} {rest : List Expr} {f g : ME} {pos : Pos} (ha : PE X a (TM Y f)) (hb : PE X (.BoolOp .And (b :: rest) pos) (TM Y g)) : PE X (.BoolOp .And (a :: b :: rest) pos) (TM Y (eAnd f g)) := pe_imp (pe_and ha hb) fun σ H Q q => by
  obtain ⟨ρ, τ, h, u, h', G, e, to⟩ := q
  unfold eAnd at e
  split at e
  · rename_i h1 e1
    exact ⟨ρ, τ, h, _, h1, G, e1, ⟨fun ρ1 H1 v ev hr r => by cases r; exact ⟨true, rfl, iteT ⟨ρ1, τ, h1, u, h', G.ev ev hr, e, to.ev ev⟩⟩⟩⟩
  · rename_i h1 e1
    cases e
    exact ⟨ρ, τ, h, _, _, G, e1, ⟨fun ρ1 H1 v ev hr r => by cases r; exact ⟨false, rfl, iteF (to.to ρ1 H1 _ ev hr (.bl false))⟩⟩⟩
  · cases e
theorem xNot {a : Expr} {f : ME} {pos : Pos} (h : PE X a (TM Y f)) : PE X (.UnaryOp .Not a pos) (TM Y (eNot f)) := pe_imp (pe_not h) fun σ H Q q => by
  obtain ⟨ρ, τ, h, u, h', G, e, to⟩ := q
  unfold eNot at e
  split at e
  · rename_i b h1 e1
    cases e
    exact ⟨ρ, τ, h, _, _, G, e1, ⟨fun ρ1 H1 v ev hr r => by cases r; exact ⟨b, rfl, to.to ρ1 H1 _ ev hr (.bl _)⟩⟩⟩
  · cases e
end
end TL
set_option Elab.async false
set_option linter.all false
set_option maxRecDepth 100000
set_option maxHeartbeats 4000000
namespace TL
open PySem PySem.Spec L2
section
variable {X : Cx} {Y : Wd}
def sNil : MS := fun τ h => .nx τ h
def sSeq (f g : MS) : MS := fun τ h => match f τ h with
  | .nx τ' h' => g τ' h'
  | o => o
theorem xsNil : PSs X [] (TMS Y sNil) := pss_imp pss_nil fun D σ H q => by
  obtain ⟨ρ, τ, h, G, to⟩ := q
  exact to ρ H σ .refl G.hr G.sl
theorem xsCons {st : Stmt} {rest : List Stmt} {f g : MS} (h1 : PS X st (TMS Y f)) (h2 : PSs X rest (TMS Y g)) : PSs X (st :: rest) (TMS Y (sSeq f g)) := pss_imp (pss_cons h1 h2) fun D σ H q => by
  obtain ⟨ρ, τ, h, G, to⟩ := q
  refine ⟨ρ, τ, h, G, ?_⟩
  unfold sSeq at to
  cases e : f τ h with
  | nx τ' h' =>
    rw [e] at to
    exact fun ρ' H' σ' ev hr sl => ⟨ρ', τ', h', ⟨sl, hr⟩, OutTo.ev ev to⟩
  | rt t h' => rw [e] at to; exact to
  | bk τ' h' => rw [e] at to; exact to
  | ct τ' h' => rw [e] at to; exact to
  | bad => rw [e] at to; exact to
theorem xsOne {st : Stmt} {f : MS} (h1 : PS X st (TMS Y f)) : PSs X [st] (TMS Y f) := pss_one h1
def sRet (f : ME) : MS := fun τ h => match f τ h with
  | .ok t h' => .rt t h'
  | .bad => .bad
theorem xsRet {e : Expr} {f : ME} {pos : Pos} (he : PE X e (TM Y f)) : PS X (.Return (some e) pos) (TMS Y (sRet f)) := ps_imp (ps_ret he) fun D σ H q => by
  obtain ⟨ρ, τ, h, G, to⟩ := q
  unfold sRet at to
  cases e : f τ h with
  | bad => simp only [e] at to; exact to.elim
  | ok t h' => simp only [e] at to; exact ⟨ρ, τ, h, t, h', G, e, ⟨fun ρ' H' v ev hr r => to ρ' H' v ev hr r⟩⟩
def sExpr (f : ME) : MS := fun τ h => match f τ h with
  | .ok _ h' => .nx τ h'
  | .bad => .bad
theorem xsExpr {e : Expr} {f : ME} {pos : Pos} (he : PE X e (TM Y f)) (hs : swapsWith e none pos.line X.env = pure false := by rfl) : PS X (.Expr e pos) (TMS Y (sExpr f)) := ps_imp (ps_expr he hs) fun D σ H q => by
  obtain ⟨ρ, τ, h, G, to⟩ := q
  unfold sExpr at to
  cases e : f τ h with
  | bad => simp only [e] at to; exact to.elim
  | ok t h' => simp only [e] at to; exact ⟨ρ, τ, h, t, h', G, e, ⟨fun ρ' H' v ev hr r => to ρ' H' σ ev hr (G.sl.ev ev.toEvR)⟩⟩
def sBad : MS := fun _ _ => .bad
theorem xsBad {st : Stmt} : PS X st (TMS Y sBad) := ps_imp ps_never fun D σ H q => by
  obtain ⟨ρ, τ, h, G, to⟩ := q
  exact to.elim
def sIf (c : MB) (f g : MS) : MS := fun τ h => match c τ h with
  | .ok true h1 => f τ h1
  | .ok false h1 => g τ h1
  | .bad => .bad
theorem xsIf {c : Expr} {a b : List Stmt} {m : MB} {f g : MS} {pos : Pos} (hc : PT X c (TMB Y m)) (ha : PSs X a (TMS Y f)) (hb : PSs X b (TMS Y g)) : PS X (.If c a b pos) (TMS Y (sIf m f g)) := ps_imp (ps_if hc ha hb) fun D σ H q => by
  obtain ⟨ρ, τ, h, G, to⟩ := q
  unfold sIf at to
  split at to
  · rename_i h1 e1
    exact ⟨ρ, τ, h, true, h1, G, e1, ⟨fun ρ1 H1 k ev hr ek => by subst ek; exact iteT ⟨ρ1, τ, h1, G.ev ev hr, to.ev ev⟩⟩⟩
  · rename_i h1 e1
    exact ⟨ρ, τ, h, false, h1, G, e1, ⟨fun ρ1 H1 k ev hr ek => by subst ek; exact iteF ⟨ρ1, τ, h1, G.ev ev hr, to.ev ev⟩⟩⟩
  · exact to.elim
abbrev MG := T → TS_ → VH → Res TS_
abbrev MGs := List T → TS_ → VH → Res TS_
def TMG (Y : Wd) (g : MG) : TG := fun v σ H Q => ∃ ρ τ h t τ' h', Go Y ρ H τ σ h ∧ Rp Y ρ H t v ∧ g t τ h = .ok τ' h' ∧ ∀ ρ' H' σ', Ev ρ H ρ' H' → HR Y ρ' H' h' → Sl Y ρ' H' τ' σ' → Q σ' H'
def TMGs (Y : Wd) (g : MGs) : TGs := fun v σ H Q => ∃ ρ τ h t τ' h', Go Y ρ H τ σ h ∧ Rps Y ρ H t v ∧ g t τ h = .ok τ' h' ∧ ∀ ρ' H' σ', Ev ρ H ρ' H' → HR Y ρ' H' h' → Sl Y ρ' H' τ' σ' → Q σ' H'
theorem pg_imp {e : Expr} {t t' : TG} (h : PG X e t) (i : ∀ v σ H Q, t' v σ H Q → t v σ H Q) : PG X e t' := ⟨fun pins s σ H v u Q I r q => h.run pins s σ H v u Q I r (i _ _ _ _ q)⟩
theorem pgs_imp {e : List Expr} {t t' : TGs} (h : PGs X e t) (i : ∀ v σ H Q, t' v σ H Q → t v σ H Q) : PGs X e t' := ⟨fun pins s σ H v u Q I r q => h.run pins s σ H v u Q I r (i _ _ _ _ q)⟩
def mgName (i : Nat) : MG := fun t τ h => .ok (τ.set i (some t)) h
theorem xgName {i : Nat} {x : Str} {pos : Pos} (hN : X.N.Nodup) (hi : X.N[i]? = some x) (hx : Loc X.env.scope x) (hf : X.fn x = true ∨ X.env.scope.names.lookup x = some .local := by first | exact .inl rfl | exact .inr rfl | assumption) : PG X (.Name x pos) (TMG Y (mgName i)) :=
  pg_imp (pg_name hN hi hx hf) fun v σ H Q q => by
    obtain ⟨ρ, τ, h, t, τ', h', G, r, e, to⟩ := q
    cases e
    exact to ρ H _ .refl G.hr (G.sl.set i r)
def mgsNil : MGs := fun ts τ h => match ts with
  | [] => .ok τ h
  | _ => .bad
def mgsCons (g : MG) (gs : MGs) : MGs := fun ts τ h => match ts with
  | t :: r => (match g t τ h with
    | .ok τ' h' => gs r τ' h'
    | .bad => .bad)
  | _ => .bad
theorem xgsNil : PGs X [] (TMGs Y mgsNil) := pgs_imp pgs_nil fun v σ H Q q => by
  obtain ⟨ρ, τ, h, t, τ', h', G, r, e, to⟩ := q
  cases r with
  | nil => cases e; exact ⟨rfl, to ρ H _ .refl G.hr G.sl⟩
  | cons a b => cases e
theorem xgsCons {e : Expr} {es : List Expr} {g : MG} {gs : MGs} (h1 : PG X e (TMG Y g)) (h2 : PGs X es (TMGs Y gs)) (hs : (assignEach (e :: es) X.env).map (·.2) = assign e X.env :: (assignEach es X.env).map (·.2) := by rfl) : PGs X (e :: es) (TMGs Y (mgsCons g gs)) :=
  pgs_imp (pgs_cons h1 h2 hs) fun v σ H Q q => by
    obtain ⟨ρ, τ, h, t, τ', h', G, r, e, to⟩ := q
    cases r with
    | nil => cases e
    | cons a b =>
      unfold mgsCons at e
      dsimp only at e
      split at e
      · rename_i τ1 h1 e1
        exact ⟨_, _, rfl, ρ, τ, h, _, τ1, h1, G, a, e1, fun ρ1 H1 σ1 ev hr sl => ⟨ρ1, τ1, h1, _, τ', h', ⟨sl, hr⟩, b.ev ev.toEvR, e, fun ρ2 H2 σ2 ev2 => to ρ2 H2 σ2 (ev.trans ev2)⟩⟩
      · cases e
def mgTup (n : Nat) (gs : MGs) : MG := fun t τ h => match t with
  | .tup ts => if ts.length = n then gs ts τ h else .bad
  | _ => .bad
theorem xgTup {es : List Expr} {k : Nat} {gs : MGs} {n : Nat} {pos : Pos} (hc : X.calm = true) (hK : X.K = Y.K) (h : PGs X es (TMGs Y gs)) (hn : (assignEach es X.env).length = n := by rfl) (hst : (assignEach es X.env).findIdx? (·.1) = none := by rfl) : PG X (.Tuple es k pos) (TMG Y (mgTup n gs)) :=
  pg_imp (pg_tup hc h hn hst) fun v σ H Q q => by
    obtain ⟨ρ, τ, h, t, τ', h', G, r, e, to⟩ := q
    unfold mgTup at e
    split at e
    · split at e
      · rename_i ts hl
        cases r with
        | tup ta rs => exact ⟨_, _, rfl, by rw [hK]; exact ta.sq, by rw [rs.length]; exact hl, ρ, τ, h, ts, τ', h', G, rs, e, to⟩
      · cases e
    · cases e
/-- o[i] = v, by values -/
def ST (Y : Wd) (r : TSet) (b : T → T → T → VH → Res Unit) : Prop := ∀ ρ H o i t vo vi v h h' Q, Rp Y ρ H o vo → Rp Y ρ H i vi → Rp Y ρ H t v → HR Y ρ H h → b o i t h = .ok () h' → (∀ ρ' H', Ev ρ H ρ' H' → HR Y ρ' H' h' → Q H') → r vo vi v H Q
def mgSub (b : T → T → T → VH → Res Unit) (fo fi : ME) : MG := fun t τ h => match fo τ h with
  | .ok o h1 => (match fi τ h1 with
    | .ok i h2 => (match b o i t h2 with
      | .ok _ h3 => .ok τ h3
      | .bad => .bad)
    | .bad => .bad)
  | .bad => .bad
theorem xgSub {o i : Expr} {fo fi : ME} {r : TSet} {b : T → T → T → VH → Res Unit} {pos : Pos} (st : ST Y r b) (ho : PE X o (TM Y fo)) (hi : PE X i (TM Y fi)) (hs : PSet X r)
    (ha : ∀ v, assign (.Subscript o i pos) X.env v = (do
      let ov ← holding [v] (eval o X.env)
      let iv ← holding [v, ov] (eval i X.env)
      standAt pos
      holding [v, ov, iv] (setItem ov iv v)
      release [v, ov, iv] []) := by intro _; rfl) : PG X (.Subscript o i pos) (TMG Y (mgSub b fo fi)) :=
  pg_imp (pg_sub ho hi hs ha) fun v σ H Q q => by
    obtain ⟨ρ, τ, h, t, τ', h', G, r, e, to⟩ := q
    unfold mgSub at e
    cases e1 : fo τ h with
    | bad => simp only [e1] at e; cases e
    | ok ot h1 =>
      simp only [e1] at e
      cases e2 : fi τ h1 with
      | bad => simp only [e2] at e; cases e
      | ok it h2 =>
        simp only [e2] at e
        cases e3 : b ot it t h2 with
        | bad => simp only [e3] at e; cases e
        | ok u h3 =>
          simp only [e3] at e
          cases e
          refine ⟨ρ, τ, h, ot, h1, G, e1, ⟨fun ρ1 H1 vo ev hr1 ro => ⟨ρ1, τ, h1, it, h2, G.ev ev hr1, e2, ⟨fun ρ2 H2 vi ev2 hr2 ri => ?_⟩⟩⟩⟩
          exact st ρ2 H2 ot it t vo vi v h2 _ _ (ro.ev ev2.toEvR) ri (r.ev (ev.trans ev2).toEvR) hr2 e3 fun ρ3 H3 ev3 hr3 => to ρ3 H3 σ ((ev.trans ev2).trans ev3) hr3 (G.sl.ev ((ev.trans ev2).trans ev3).toEvR)
def sAsg (f : ME) (g : MG) : MS := fun τ h => match f τ h with
  | .ok t h1 => (match g t τ h1 with
    | .ok τ' h' => .nx τ' h'
    | .bad => .bad)
  | .bad => .bad
theorem tms_asg {f : ME} {g : MG} {D : Ends} {σ : St} {H : Hp} (q : TMS Y (sAsg f g) D σ H) : TM Y f σ H fun x H1 => TMG Y g x σ H1 D.nx := by
  obtain ⟨ρ, τ, h, G, to⟩ := q
  unfold sAsg at to
  cases e1 : f τ h with
  | bad => simp only [e1] at to; exact to.elim
  | ok t h1 =>
    simp only [e1] at to
    refine ⟨ρ, τ, h, t, h1, G, e1, ⟨fun ρ1 H1 v ev hr r => ?_⟩⟩
    cases e2 : g t τ h1 with
    | bad => simp only [e2] at to; exact to.elim
    | ok τ' h' =>
      simp only [e2] at to
      exact ⟨ρ1, τ, h1, t, τ', h', G.ev ev hr, r, e2, fun ρ2 H2 σ2 ev2 hr2 sl2 => to ρ2 H2 σ2 (ev.trans ev2) hr2 sl2⟩
theorem xsAsg {tg e : Expr} {f : ME} {g : MG} {pos : Pos} (he : PE X e (TM Y f)) (hg : PG X tg (TMG Y g)) (hs : swapsWithSole [tg] e pos.line X.env = pure false := by rfl) (hw : swappedStores [tg] e X.env = pure none := by rfl)
    (h1 : (assignEach [tg] X.env).map (·.2) = [assign tg X.env] := by rfl) : PS X (.Assign [tg] e pos) (TMS Y (sAsg f g)) := ps_imp (ps_asg he hg hs hw h1) fun D σ H q => tms_asg q
def sSet (i : Nat) (f : ME) : MS := fun τ h => match f τ h with
  | .ok t h1 => .nx (τ.set i (some t)) h1
  | .bad => .bad
theorem tms_set {i : Nat} {f : ME} {D : Ends} {σ : St} {H : Hp} (q : TMS Y (sSet i f) D σ H) : TM Y f σ H fun x H1 => D.nx (σ.set i (some x)) H1 := by
  obtain ⟨ρ, τ, h, G, to⟩ := q
  unfold sSet at to
  cases e1 : f τ h with
  | bad => simp only [e1] at to; exact to.elim
  | ok t h1 =>
    simp only [e1] at to
    exact ⟨ρ, τ, h, t, h1, G, e1, ⟨fun ρ1 H1 v ev hr r => to ρ1 H1 _ ev hr ((G.sl.ev ev.toEvR).set i r)⟩⟩
theorem xsSet {i : Nat} {x : Str} {e : Expr} {f : ME} {pos pos' : Pos} (hN : X.N.Nodup) (hi : X.N[i]? = some x) (hx : Loc X.env.scope x) (he : PE X e (TM Y f)) (hs : swapsWith e (some (.Name x pos')) pos.line X.env = pure false := by rfl) (hf : X.fn x = true ∨ X.env.scope.names.lookup x = some .local := by first | exact .inl rfl | exact .inr rfl | assumption) :
    PS X (.Assign [.Name x pos'] e pos) (TMS Y (sSet i f)) := ps_imp (ps_set hN hi hx he hs hf) fun D σ H q => tms_set q
/-- a, b = x, y with plain local names -/
def sPar (i j : Nat) (g : MA) : MS := fun τ h => match g τ h with
  | .ok [t, u] h1 => .nx ((τ.set i (some t)).set j (some u)) h1
  | _ => .bad
theorem xsPar {i j : Nat} {x y : Str} {a b : Expr} {g : MA} {px py pt pos : Pos} {kt k2 pt2} (hc : X.calm = true) (hN : X.N.Nodup) (hi : X.N[i]? = some x) (hj : X.N[j]? = some y) (hij : i ≠ j)
    (hx : X.env.scope.names.lookup x = some .local) (hy : X.env.scope.names.lookup y = some .local) (ha : PA X [a, b] (TMA Y g))
    (hw : swappedStores [.Tuple [.Name x px, .Name y py] kt pt] (.Tuple [a, b] k2 pt2) X.env = pure (some [x, y]) := by rfl)
    (hs : swapsWithSole [.Tuple [.Name x px, .Name y py] kt pt] (.Tuple [a, b] k2 pt2) pos.line X.env = pure false := by rfl) :
    PS X (.Assign [.Tuple [.Name x px, .Name y py] kt pt] (.Tuple [a, b] k2 pt2) pos) (TMS Y (sPar i j g)) := ps_imp (ps_par hc hN hi hj hij hx hy ha hw hs) fun D σ H q => by
  obtain ⟨ρ, τ, h, G, to⟩ := q
  unfold sPar at to
  split at to
  · rename_i t u h1 e1
    refine ⟨ρ, τ, h, [t, u], h1, G, e1, ⟨fun ρ1 H1 vs ev hr r => ?_⟩⟩
    cases r with
    | cons r1 r2 =>
      cases r2 with
      | cons r2 r3 =>
        cases r3
        exact ⟨_, _, rfl, to ρ1 H1 _ ev hr (((G.sl.ev ev.toEvR).set i r1).set j r2)⟩
  · exact to.elim
abbrev MI := TS_ → VH → Res (VH → Option (List T))
/-- J walks what rd tells, from (ρ, H) on -/
structure Wk (Y : Wd) (J : It) (rd : VH → Option (List T)) (ρ0 : Rh) (H0 : Hp) : Prop where
  go : ∀ ρ H h ts i t, EvR ρ0 H0 ρ H → HR Y ρ H h → rd h = some ts → ts[i]? = some t → J.go i H ∧ ∀ x H', J.yld i H x H' → Ev ρ H ρ H' ∧ HR Y ρ H' h ∧ Rp Y ρ H' t x
  stop : ∀ ρ H h ts i, EvR ρ0 H0 ρ H → HR Y ρ H h → rd h = some ts → ts.length ≤ i → J.stop i H
def TMI (Y : Wd) (f : MI) : TI := fun σ H R => ∃ ρ τ h rd h', Go Y ρ H τ σ h ∧ f τ h = .ok rd h' ∧ ∀ ρ' H' J, Ev ρ H ρ' H' → HR Y ρ' H' h' → Wk Y J rd ρ' H' → R J H'
theorem pi_imp {tg e : Expr} {t t' : TI} (h : PI X tg e t) (i : ∀ σ H Q, t' σ H Q → t σ H Q) : PI X tg e t' := ⟨fun pins s σ H R I q => h.run pins s σ H R I (i _ _ _ q)⟩
/-- the turns of a loop: n in all, k to go, at i -/
def forL (rd : VH → Option (List T)) (g : MG) (body : MS) (n : Nat) : Nat → Nat → TS_ → VH → Out
  | 0, _, τ, h => match rd h with
    | some ts => if ts.length = n then .nx τ h else .bad
    | none => .bad
  | k + 1, i, τ, h => match rd h with
    | some ts => if ts.length = n then (match ts[i]? with
      | some t => (match g t τ h with
        | .ok τ1 h1 => (match body τ1 h1 with
          | .nx τ2 h2 => forL rd g body n k (i + 1) τ2 h2
          | .ct τ2 h2 => forL rd g body n k (i + 1) τ2 h2
          | .bk τ2 h2 => .nx τ2 h2
          | o => o)
        | .bad => .bad)
      | none => .bad) else .bad
    | none => .bad
def sFor (mi : MI) (g : MG) (body : MS) : MS := fun τ h => match mi τ h with
  | .ok rd h1 => (match rd h1 with
    | some ts => forL rd g body ts.length ts.length 0 τ h1
    | none => .bad)
  | .bad => .bad
theorem tms_for {mi : MI} {g : MG} {body : MS} {D : Ends} {σ : St} {H : Hp} (q : TMS Y (sFor mi g body) D σ H) : tFor (TMI Y mi) (TMG Y g) (TMS Y body) D σ H := by
  obtain ⟨ρ, τ, h, G, to⟩ := q
  unfold sFor at to
  cases e1 : mi τ h with
  | bad => simp only [e1] at to; exact to.elim
  | ok rd h1 =>
    simp only [e1] at to
    refine ⟨ρ, τ, h, rd, h1, G, e1, fun ρ1 H1 J ev hr wk => ?_⟩
    cases e2 : rd h1 with
    | none => simp only [e2] at to; exact to.elim
    | some ts0 =>
      simp only [e2] at to
      refine ⟨fun i m σ H => i + m = ts0.length ∧ ∃ ρ2 τ2 h2, Ev ρ1 H1 ρ2 H ∧ Go Y ρ2 H τ2 σ h2 ∧ OutTo Y ρ2 H (forL rd g body ts0.length m i τ2 h2) D, ⟨ts0.length, by omega, ρ1, τ, h1, .refl, G.ev ev hr, to.ev ev⟩, ?_⟩
      rintro i m σ2 H2 ⟨him, ρ2, τ2, h2, ev2, G2, to2⟩
      cases m with
      | zero =>
        unfold forL at to2
        split at to2
        · rename_i ts ets
          split at to2
          · rename_i hl
            exact .inl ⟨wk.stop ρ2 H2 h2 ts i ev2.toEvR G2.hr ets (by omega), to2 ρ2 H2 σ2 .refl G2.hr G2.sl⟩
          · exact to2.elim
        · exact to2.elim
      | succ m =>
        unfold forL at to2
        split at to2
        · rename_i ts ets
          split at to2
          · rename_i hl
            split at to2
            · rename_i t et
              obtain ⟨go, yl⟩ := wk.go ρ2 H2 h2 ts i t ev2.toEvR G2.hr ets et
              refine .inr ⟨go, fun σ' H' => ∃ ρ3 τ3 h3, Ev ρ1 H1 ρ3 H' ∧ Go Y ρ3 H' τ3 σ' h3 ∧ OutTo Y ρ3 H' (forL rd g body ts0.length m (i + 1) τ3 h3) D, fun σ' H' hh => ⟨m, by omega, by omega, hh⟩, fun x H3 hy => ?_⟩
              obtain ⟨ev3, hr3, r3⟩ := yl x H3 hy
              split at to2
              · rename_i τ4 h4 e4
                refine ⟨ρ2, τ2, h2, t, τ4, h4, ⟨G2.sl.ev ev3.toEvR, hr3⟩, r3, e4, fun ρ5 H5 σ5 ev5 hr5 sl5 => ⟨ρ5, τ4, h4, ⟨sl5, hr5⟩, ?_⟩⟩
                have to3 := to2.ev (ev3.trans ev5)
                have evv := ev2.trans (ev3.trans ev5)
                cases e6 : body τ4 h4 with
                | nx τ6 h6 =>
                  simp only [e6] at to3
                  exact fun ρ7 H7 σ7 ev7 hr7 sl7 => ⟨ρ7, τ6, h6, evv.trans ev7, ⟨sl7, hr7⟩, to3.ev ev7⟩
                | ct τ6 h6 =>
                  simp only [e6] at to3
                  exact fun ρ7 H7 σ7 ev7 hr7 sl7 => ⟨ρ7, τ6, h6, evv.trans ev7, ⟨sl7, hr7⟩, to3.ev ev7⟩
                | bk τ6 h6 =>
                  simp only [e6] at to3
                  exact to3
                | rt t6 h6 =>
                  simp only [e6] at to3
                  exact to3
                | bad =>
                  simp only [e6] at to3
                  exact to3.elim
              · exact to2.elim
            · exact to2.elim
          · exact to2.elim
        · exact to2.elim
theorem xsFor {tg iter : Expr} {body : List Stmt} {mi : MI} {g : MG} {f : MS} {pos : Pos} (hp : PassesOwn (model X.prog X.w) X.A X.env X.xe) (hc : X.calm = true) (hi : PI X tg iter (TMI Y mi)) (hg : PG X tg (TMG Y g)) (hb : PSs X body (TMS Y f))
    (hs : ∀ x, foldedSetIterable iter X.env x = pure x := by intro _; rfl) : PS X (.For tg iter body [] pos) (TMS Y (sFor mi g f)) := ps_imp (ps_for hp hc hi hg hb hs) fun D σ H q => tms_for q
def wipeT (τ : TS_) : List Nat → TS_
  | [] => τ
  | v :: vs => (wipeT τ vs).set v none
theorem Sl.unset {ρ : Rh} {H : Hp} {τ : TS_} {σ : St} (s : Sl Y ρ H τ σ) (i : Nat) : Sl Y ρ H (τ.set i none) (σ.set i none) := by
  refine ⟨by simp [s.1], fun j t' h => ?_⟩
  by_cases hj : i = j
  · subst hj
    have hi : i < τ.length := by
      have := (List.getElem?_eq_some_iff.mp h).1
      simpa using this
    rw [List.getElem?_set_self hi] at h
    cases h
  · rw [List.getElem?_set_ne hj] at h ⊢
    exact s.2 j t' h
theorem Sl.wipe {ρ : Rh} {H : Hp} {τ : TS_} {σ : St} (s : Sl Y ρ H τ σ) : ∀ vs : List Nat, Sl Y ρ H (wipeT τ vs) (wipe σ vs)
  | [] => s
  | v :: vs => (s.wipe vs).unset v
theorem set_same {α : Type} (l : List α) (i : Nat) (a b : α) : (l.set i a).set i b = l.set i b := by simp
theorem wipe_set {σ : St} {v : V} : ∀ {vs : List Nat} {i : Nat}, i ∈ vs → wipe (σ.set i (some v)) vs = wipe σ vs
  | w :: vs, i, h => by
    unfold wipe
    by_cases hi : i = w
    · subst hi
      by_cases hm : i ∈ vs
      · rw [wipe_set hm]
      · have : ∀ (us : List Nat), i ∉ us → wipe (σ.set i (some v)) us = (wipe σ us).set i (some v) := by
          intro us
          induction us with
          | nil => intro _; rfl
          | cons u us ih =>
            intro hu
            unfold wipe
            rw [ih (fun z => hu (List.mem_cons_of_mem _ z)), List.set_comm _ _ (fun z => hu (by rw [z]; exact List.mem_cons_self))]
        rw [this vs hm, set_same]
    · rw [wipe_set ((List.mem_cons.mp h).resolve_left hi)]
end
end TL
set_option Elab.async false
set_option linter.all false
set_option maxRecDepth 100000
set_option maxHeartbeats 4000000
namespace TL
open PySem PySem.Spec L2
open PyProof.Rows (envOfC)
section
variable {X : Cx} {Y : Wd}
def TMGW (Y : Wd) (g : MG) (ws : List Nat) : TG := fun v σ H Q => ∃ ρ τ h t τ' h', Go Y ρ H τ σ h ∧ Rp Y ρ H t v ∧ g t τ h = .ok τ' h' ∧ ∀ ρ' H' σ', Ev ρ H ρ' H' → HR Y ρ' H' h' → Sl Y ρ' H' τ' σ' → wipe σ' ws = wipe σ ws → Q σ' H'
theorem wgName {i : Nat} {ws : List Nat} {x : Str} {pos : Pos} (hm : i ∈ ws) (hN : X.N.Nodup) (hi : X.N[i]? = some x) (hx : Loc X.env.scope x) (hf : X.fn x = true ∨ X.env.scope.names.lookup x = some .local := by first | exact .inl rfl | exact .inr rfl | assumption) : PG X (.Name x pos) (TMGW Y (mgName i) ws) :=
  pg_imp (pg_name hN hi hx hf) fun v σ H Q q => by
    obtain ⟨ρ, τ, h, t, τ', h', G, r, e, to⟩ := q
    cases e
    exact to ρ H _ .refl G.hr (G.sl.set i r) (wipe_set hm)
def bYes : MB := fun _ h => .ok true h
theorem pts_imp {e : List Expr} {t t' : TT} (h : PTs X e t) (i : ∀ σ H Q, t' σ H Q → t σ H Q) : PTs X e t' := ⟨fun pins s σ H Q I q => h.run pins s σ H Q I (i _ _ _ q)⟩
theorem xtsNil : PTs X [] (TMB Y bYes) := pts_imp pts_nil fun σ H Q q => by
  obtain ⟨ρ, τ, h, u, h', G, e, to⟩ := q
  cases e
  exact to.to ρ H _ .refl G.hr rfl
/-- the turns of a comprehension -/
def lcL (rd : VH → Option (List T)) (g : MG) (c : MB) (e : ME) (τ : TS_) (n : Nat) : Nat → Nat → List T → VH → Res (List T)
  | 0, _, acc, h => match rd h with
    | some ts => if ts.length = n then .ok acc h else .bad
    | none => .bad
  | k + 1, i, acc, h => match rd h with
    | some ts => if ts.length = n then (match ts[i]? with
      | some t => (match g t τ h with
        | .ok τ1 h1 => (match c τ1 h1 with
          | .ok true h2 => (match e τ1 h2 with
            | .ok y h3 => lcL rd g c e τ n k (i + 1) (acc ++ [y]) h3
            | .bad => .bad)
          | .ok false h2 => lcL rd g c e τ n k (i + 1) acc h2
          | .bad => .bad)
        | .bad => .bad)
      | none => .bad) else .bad
    | none => .bad
def mLc (mi : MI) (ws : List Nat) (g : MG) (c : MB) (e : ME) : MA := fun τ h => match mi τ h with
  | .ok rd h1 => (match rd h1 with
    | some ts => if ts.length ≤ 16777216 then lcL rd g c e (wipeT τ ws) ts.length ts.length 0 [] h1 else .bad
    | none => .bad)
  | .bad => .bad
theorem wipe_idem (σ : St) : ∀ ws : List Nat, wipe (wipe σ ws) ws = wipe σ ws := by
  have one : ∀ (ws : List Nat) (u : Nat), u ∈ ws → (wipe σ ws).set u none = wipe σ ws := by
    intro ws u
    induction ws with
    | nil => intro hm; cases hm
    | cons w ws ih2 =>
      intro hm
      show ((wipe σ ws).set w none).set u none = (wipe σ ws).set w none
      by_cases hw : u = w
      · subst hw; simp
      · rw [List.set_comm _ _ (fun z => hw z.symm), ih2 ((List.mem_cons.mp hm).resolve_left hw)]
  have key : ∀ (us ws : List Nat), (∀ u ∈ us, u ∈ ws) → wipe (wipe σ ws) us = wipe σ ws := by
    intro us
    induction us with
    | nil => intro ws _; rfl
    | cons u us ih =>
      intro ws h
      show (wipe (wipe σ ws) us).set u none = wipe σ ws
      rw [ih ws fun v hv => h v (List.mem_cons_of_mem _ hv)]
      exact one ws u (h u List.mem_cons_self)
  exact fun ws => key ws ws fun _ h => h
theorem Sl.updb {ρ : Rh} {H : Hp} {τ : TS_} {σ : St} {p : Addr} {o : HO} (hp : p ∈ ρ.bn) (s : Sl Y ρ H τ σ) : Sl Y ρ (upd H p o) τ σ := ⟨s.1, fun i t h => let ⟨v, a, b⟩ := s.2 i t h; ⟨v, a, b.updb hp⟩⟩
theorem ban_split {ρ1 ρ2 ρ' : Rh} {H1 H2 H' : Hp} {D : Addr} (hD : H1 D = none) (a : Ev ρ1 H1 ρ2 H2) (b : Ev (ρ2.ban D) H2 ρ' H') : ∃ ρ8 : Rh, ρ' = ρ8.ban D ∧ Ev ρ1 H1 ρ8 H' := by
  obtain ⟨ix, bn⟩ := ρ'
  have e : bn = D :: ρ2.bn := b.bn
  subst e
  refine ⟨⟨ix, ρ2.bn⟩, rfl, a.trans ?_⟩
  exact .mk' b.more rfl b.keep b.there b.fz
theorem Ev.updf {ρ ρ' : Rh} {H H' : Hp} {D : Addr} {o : HO} (hD : H D = none) (e : Ev ρ H ρ' H') : Ev ρ H ρ' (upd H' D o) :=
  .mk' e.more e.bn (fun b u z n nt => by rw [upd_ne (ne_of_none z hD)]; exact e.keep b u z n nt) (fun b z => by
    by_cases q : b = D
    · rw [q, upd_same]; simp
    · rw [upd_ne q]; exact e.there b z) fun b x u z => by rw [upd_ne (ne_of_none z hD)]; exact e.fz b x u z
theorem tm_lc {mi : MI} {g : MG} {c : MB} {e : ME} {ws : List Nat} {σ : St} {H : Hp} {Q : VK} (q : TMF Y (mLc mi ws g c e) σ H Q) : tLc (TMI Y mi) (TMGW Y g ws) (TMB Y c) (TM Y e) ws σ H Q := by
  obtain ⟨ρ, τ, h, ys, h', G, e0, to⟩ := q
  unfold mLc at e0
  cases e1 : mi τ h with
  | bad => simp only [e1] at e0; cases e0
  | ok rd h1 =>
    simp only [e1] at e0
    refine ⟨ρ, τ, h, rd, h1, G, e1, fun ρ1 H1 J ev hr wk => ?_⟩
    cases e2 : rd h1 with
    | none => simp only [e2] at e0; cases e0
    | some ts0 =>
      simp only [e2] at e0
      split at e0
      case isFalse => cases e0
      rename_i hz0
      intro D hD
      have hD0 : H D = none := ev.fresh hD
      have slw : Sl Y ρ1 H1 (wipeT τ ws) (wipe σ ws) := (G.sl.ev ev.toEvR).wipe ws
      have slb : Sl Y (ρ1.ban D) (upd H1 D (.lst [])) (wipeT τ ws) (wipe σ ws) := ⟨slw.1, fun i t ht => let ⟨v, a, b⟩ := slw.2 i t ht; ⟨v, a, (b.ban hD).updb List.mem_cons_self⟩⟩
      have ev0 : Ev ρ1 H1 ρ1 (upd H1 D (.lst [])) := Ev.new hD
      refine ⟨fun i m H => i + m = ts0.length ∧ ∃ ρ2 h2 acc vs, Ev ρ1 H1 ρ2 H ∧ Sl Y (ρ2.ban D) H (wipeT τ ws) (wipe σ ws) ∧ HR Y (ρ2.ban D) H h2 ∧ H D = some (.lst vs) ∧ Rps Y (ρ2.ban D) H acc vs ∧ acc.length ≤ i ∧ lcL rd g c e (wipeT τ ws) ts0.length m i acc h2 = .ok ys h',
        ⟨ts0.length, by omega, ρ1, h1, [], [], ev0, slb, hr.begin hD, upd_same, .nil, Nat.le_refl _, e0⟩, ?_⟩
      rintro i m H2 ⟨him, ρ2, h2, acc, vs, ev2, sl2, hr2, hd2, rs2, hl2, e3⟩
      have mb : D ∈ (ρ2.ban D).bn := List.mem_cons_self
      have nix2 : D ∉ (ρ2.ban D).ix := (hr2.bt D mb).2
      cases m with
      | zero =>
        unfold lcL at e3
        split at e3
        · rename_i ts ets
          split at e3
          · rename_i hl
            cases e3
            have hn : vs.length ≤ sizeLine := by rw [rs2.length, sizeLine_eq]; omega
            have nix : D ∉ ρ2.ix := (hr2.bt D mb).2
            have nb : D ∉ ρ2.bn := fun z => by
              rw [ev2.bn] at z
              exact (hr.bt D z).1 hD
            exact .inl ⟨wk.stop ρ2 H2 _ ts i ev2.toEvR hr2.unban ets (by omega), to ρ2 H2 D vs (ev.trans ev2) hr2.unban hD0 ⟨hn, ⟨nix, nb⟩, hd2⟩ rs2.unban (hr2.topush nb ⟨vs, hd2, hn, rs2.topush⟩)⟩
          · cases e3
        · cases e3
      | succ m =>
        unfold lcL at e3
        split at e3
        · rename_i ts ets
          split at e3
          · rename_i hl
            split at e3
            · rename_i t et
              obtain ⟨go, yl⟩ := wk.go (ρ2.ban D) H2 h2 ts i t (ev2.toEvR.ban hD) hr2 ets et
              refine .inr ⟨go, fun H' => ∃ ρ3 h3 acc3 vs3, Ev ρ1 H1 ρ3 H' ∧ Sl Y (ρ3.ban D) H' (wipeT τ ws) (wipe σ ws) ∧ HR Y (ρ3.ban D) H' h3 ∧ H' D = some (.lst vs3) ∧ Rps Y (ρ3.ban D) H' acc3 vs3 ∧ acc3.length ≤ i + 1 ∧ lcL rd g c e (wipeT τ ws) ts0.length m (i + 1) acc3 h3 = .ok ys h',
                fun H' hh => ⟨m, by omega, by omega, hh⟩, fun x H3 hy => ?_⟩
              obtain ⟨ev3, hr3, r3⟩ := yl x H3 hy
              split at e3
              case h_2 => cases e3
              rename_i τ4 h4 e4
              refine ⟨ρ2.ban D, wipeT τ ws, h2, t, τ4, h4, ⟨sl2.ev ev3.toEvR, hr3⟩, r3, e4, fun ρ5 H5 σ5 ev5 hr5 sl5 w5 => ?_⟩
              refine ⟨by rw [w5]; exact wipe_idem σ ws, ?_⟩
              have ev35 := ev3.trans ev5
              split at e3
              case h_3 => cases e3
              · rename_i h6 e6
                split at e3
                case h_2 => cases e3
                rename_i y h7 e7
                refine ⟨ρ5, τ4, h4, true, h6, ⟨sl5, hr5⟩, e6, ⟨fun ρ6 H6 b ev6 hr6 eb => ?_⟩⟩
                subst eb
                refine iteT ⟨ρ6, τ4, h6, y, h7, ⟨sl5.ev ev6.toEvR, hr6⟩, e7, ⟨fun ρ7 H7 v ev7 hr7 r7 => ?_⟩⟩
                have eva := (ev35.trans ev6).trans ev7
                have hd7 : H7 D = some (.lst vs) := eva.keep D _ hd2 nix2 (fun _ z => by cases z)
                obtain ⟨ρ8, rfl, ev8⟩ := ban_split hD ev2 eva
                have mb7 : D ∈ (ρ8.ban D).bn := List.mem_cons_self
                refine ⟨vs, hd7, by rw [rs2.length, sizeLine_eq]; omega, ρ8, h7, acc ++ [y], vs ++ [v], ev8.updf hD, ?_, hr7.updb mb7, upd_same, ((rs2.ev eva.toEvR).snoc r7).updb mb7, by simp; omega, e3⟩
                exact (sl2.ev eva.toEvR).updb mb7
              · rename_i h6 e6
                refine ⟨ρ5, τ4, h4, false, h6, ⟨sl5, hr5⟩, e6, ⟨fun ρ6 H6 b ev6 hr6 eb => ?_⟩⟩
                subst eb
                refine iteF ?_
                have eva := ev35.trans ev6
                have hd7 : H6 D = some (.lst vs) := eva.keep D _ hd2 nix2 (fun _ z => by cases z)
                obtain ⟨ρ8, rfl, ev8⟩ := ban_split hD ev2 eva
                exact ⟨ρ8, h6, acc, vs, ev8, sl2.ev eva.toEvR, hr6, hd7, rs2.ev eva.toEvR, by omega, e3⟩
            · cases e3
          · cases e3
        · cases e3
theorem pe_tmf {e : Expr} {t : TE} {f : MA} (h : PE X e t) (i : ∀ σ H Q, TMF Y f σ H Q → t σ H Q) : PE X e (TMF Y f) := pe_imp h i
theorem xLc {elt tg iter : Expr} {ifs : List Expr} {scope : Scope} {own : List (Str × Nat)} {pos : Pos} {mi : MI} {g : MG} {c : MB} {f : ME} (hc : X.calm = true) (hN : X.N.Nodup) (hi : PI X tg iter (TMI Y mi)) (ok : BlkOk X.N X.env.scope scope own)
    (hg : ∀ (s : Shared) (H : Hp) (C : Addr) (cl : List (Str × Addr)) (fp : List Addr), PG (X.blk s H scope (compEnvC scope cl C X.env) fp) tg (TMGW Y g (own.map (·.2)))) (ht : ∀ (s : Shared) (H : Hp) (C : Addr) (cl : List (Str × Addr)) (fp : List Addr), PTs (X.blk s H scope (compEnvC scope cl C X.env) fp) ifs (TMB Y c))
    (he : ∀ (s : Shared) (H : Hp) (C : Addr) (cl : List (Str × Addr)) (fp : List Addr), PE (X.blk s H scope (compEnvC scope cl C X.env) fp) elt (TM Y f)) (hs : ∀ x, foldedSetIterable iter X.env x = pure x := by intro _; rfl) :
    PE X (.ListComp elt [⟨tg, iter, ifs, 0⟩] scope pos) (TMF Y (mLc mi (own.map (·.2)) g c f)) := pe_tmf (pe_lc hc hN hi ok hg ht he hs) fun σ H Q q => tm_lc q
/-- name = [..]: the list is plain, or one that may change -/
theorem xsSetLcL {i : Nat} {y : Str} {py : Pos} {elt tg iter : Expr} {ifs : List Expr} {scope : Scope} {own : List (Str × Nat)} {pos spos : Pos} {mi : MI} {g : MG} {c : MB} {f : ME} (hc : X.calm = true) (hN : X.N.Nodup) (hy : X.N[i]? = some y) (hyl : X.env.scope.names.lookup y = some .local)
    (hsw : swapsWith (.ListComp elt [⟨tg, iter, ifs, 0⟩] scope pos) (some (.Name y py)) spos.line X.env = pure true) (hi : PI X tg iter (TMI Y mi)) (ok : BlkOk X.N X.env.scope scope own)
    (hg : ∀ (s : Shared) (H : Hp) (C : Addr) (cl : List (Str × Addr)) (fp : List Addr), PG (X.blk s H scope (compEnvC scope cl C X.env) fp) tg (TMGW Y g (own.map (·.2)))) (ht : ∀ (s : Shared) (H : Hp) (C : Addr) (cl : List (Str × Addr)) (fp : List Addr), PTs (X.blk s H scope (compEnvC scope cl C X.env) fp) ifs (TMB Y c))
    (he : ∀ (s : Shared) (H : Hp) (C : Addr) (cl : List (Str × Addr)) (fp : List Addr), PE (X.blk s H scope (compEnvC scope cl C X.env) fp) elt (TM Y f)) (hs : ∀ x, foldedSetIterable iter X.env x = pure x := by intro _; rfl) :
    PS X (.Assign [.Name y py] (.ListComp elt [⟨tg, iter, ifs, 0⟩] scope pos) spos) (TMS Y (sSet i (eL (mLc mi (own.map (·.2)) g c f)))) := ps_imp (ps_setLc hc hN hy hyl hsw hi ok hg ht he hs) fun D σ H q => by
  obtain ⟨ρ, τ, h, ts, h', G, e, to⟩ := tms_set q
  unfold eL at e
  cases e1 : mLc mi (own.map (·.2)) g c f τ h with
  | bad => simp only [e1] at e; cases e
  | ok us h1 =>
    simp only [e1] at e
    cases e
    exact tm_lc ⟨ρ, τ, h, us, _, G, e1, fun ρ' H' D' vs ev hr hD la rs _ => to.to ρ' H' _ ev hr (.lst la rs)⟩
/-- what a def promises: what its mirror gives -/
def spM (Y : Wd) (m : List T → VH → Res T) : Sp := fun vs H Q _ => ∃ ρ ts h t h', Rps Y ρ H ts vs ∧ HR Y ρ H h ∧ m ts h = .ok t h' ∧ To Y (Rp Y) ρ H t h' Q
def startT (n : Nat) (ts : List T) : TS_ := ts.map some ++ List.replicate (n - ts.length) none
/-- a def's mirror: its body's, with n slots, p parameters -/
def defM (n p : Nat) (f : MS) : List T → VH → Res T := fun ts h => if ts.length = p then (match f (startT n ts) h with
  | .nx _ h' => .ok .non h'
  | .rt t h' => .ok t h'
  | _ => .bad) else .bad
theorem sl_start {ρ : Rh} {H : Hp} {ts : List T} {vs : List V} {N : List Str} (r : Rps Y ρ H ts vs) : Sl Y ρ H (startT N.length ts) (L2.start N vs) := by
  have hl := r.length
  refine ⟨by simp [startT, L2.start, hl], fun i t e => ?_⟩
  unfold startT at e
  by_cases hi : i < ts.length
  · rw [List.getElem?_append_left (by simpa using hi), List.getElem?_map] at e
    cases q : ts[i]? with
    | none => rw [q] at e; cases e
    | some u =>
      rw [q] at e
      cases e
      obtain ⟨v, hv, rv⟩ := r.get q
      refine ⟨v, ?_, rv⟩
      unfold L2.start
      rw [List.getElem?_append_left (by simp [hl]; exact hi), List.getElem?_map, hv]
      rfl
  · rw [List.getElem?_append_right (by simpa using Nat.le_of_not_lt hi), List.getElem?_replicate] at e
    split at e <;> cases e
/-- the promise of a def whose body has a mirror -/
theorem fnM {P : Program} {w : World} {K : PySem.W.Frag} {mg : Str → Option Value} {base : Heap} {x qual : Str} {params : Arguments} {body : List Stmt} {scope : Scope} {dvs : List V} {kws : List (Str × V)} {f : Addr} {fd : FuncData} {N ps : List Str} {k : Nat} {g : MS}
    (F : FunD K x qual params body scope dvs kws f fd) (S : FnScope N ps scope) (n p : Nat) (hn : N.length = n := by rfl) (hp : ps.length = p := by rfl)
    (hb : ∀ (cdv : Value) (A : Around) (outer : List Env) (s : Shared) (H : Hp) (E : XK), Room k (A.deeper (envOfC qual scope s.heap.objs.size f cdv)) → PSs (cxOf CX0 P w K mg base N qual scope f cdv A outer s H E).nox body (TMS Y g)) :
    FnOk P w K mg base CX0 (k + 1) f fd ps (spM Y (defM n p g)) := by
  subst hn hp
  refine F.ok S (fun vs H Q E h => ?_) (fun cdv A outer s H vs Q E hr h => ⟨TMS Y g, (hb cdv A outer s H E hr).nox, ?_⟩)
  · obtain ⟨ρ, ts, hh, t, h', r, hr, e, to⟩ := h
    unfold defM at e
    split at e
    · rename_i hl
      rw [r.length]; exact hl
    · cases e
  · obtain ⟨ρ, ts, hh, t, h', r, hr, e, to⟩ := h
    unfold defM at e
    split at e
    · rename_i hl
      refine ⟨ρ, startT N.length ts, hh, ⟨sl_start r, hr⟩, ?_⟩
      cases q : g (startT N.length ts) hh with
      | nx τ' h1 =>
        simp only [q] at e
        cases e
        exact fun ρ' H' σ' ev hr' sl => to.to ρ' H' .non ev hr' .non
      | rt u h1 =>
        simp only [q] at e
        cases e
        exact fun ρ' H' v ev hr' r' => to.to ρ' H' v ev hr' r'
      | bk τ' h1 => simp only [q] at e; cases e
      | ct τ' h1 => simp only [q] at e; cases e
      | bad => simp only [q] at e; cases e
    · cases e
theorem ct_sp {m : List T → VH → Res T} (E : XK) : CT Y (fun vs H Q => spM Y m vs H Q E) m := fun ρ H ts vs h t h' Q r hr e to => ⟨ρ, ts, h, t, h', r, hr, e, to⟩
theorem xCall {k : Nat} {f : Addr} {fd : FuncData} {ps : List Str} {m : List T → VH → Res T} {x : Str} {p pos : Pos} {e : Expr} {es : List Expr} {g : MA} (F : FnOk X.prog X.w X.K X.mg X.base CX0 k f fd ps (spM Y m)) (hr : Room k X.A) (hg : Gl X x) (hm : X.mg x = some (.ref f)) (hk : PySem.W.keepIn X.K (.ref f) = true) (hb : Binds X.K fd ps [])
    (ha : PA X (e :: es) (TMA Y g)) (hdb : (x == ("__debug__" : Str)) = false := by decide) (he : starEach (e :: es) X.env = (false, eval e X.env) :: starEach es X.env := by rfl) (hpl : (backTo pos (starEach es X.env)).any (·.1) = false := by rfl) :
    PE X (.Call (.Name x p) (e :: es) [] pos) (TM Y (eCall m g)) := pe_imp (pe_call F hr hg hm hk hb .nil pass0 ha hdb he hpl) fun σ H Q q => by
  have z := tm_call (ct_sp (m := m) E0) q
  obtain ⟨ρ, τ, h, t, h1, G, e1, to⟩ := z
  exact ⟨ρ, τ, h, t, h1, G, e1, ⟨fun ρ' H' v ev hr r => by rw [List.append_nil]; exact to.to ρ' H' v ev hr r⟩⟩
mutual
def T.lowR (n : Nat) : T → Bool
  | .tup ts => lowRs n ts
  | .arg ts => lowRs n ts
  | .tpx ts => lowRs n ts
  | .lst ts => lowRs n ts
  | .obj _ fs => lowRs n fs
  | .ref k => decide (k < n)
  | _ => true
def lowRs (n : Nat) : List T → Bool
  | [] => true
  | t :: ts => t.lowR n && lowRs n ts
end
end
end TL
set_option Elab.async false
set_option linter.all false
set_option maxRecDepth 100000
set_option maxHeartbeats 4000000
namespace TL
open PySem PySem.Spec L2
open PyProof.Rows (envOfC)
section
variable {Y : Wd} {ρ ρ' : Rh} {H H' : Hp}
mutual
theorem Rp.low : ∀ {t : T} {v : V}, Rp Y ρ H t v → t.lowR ρ.ix.length = true
  | _, _, .non => rfl
  | _, _, .bl b => rfl
  | _, _, .int i => rfl
  | _, _, .str h => rfl
  | _, _, .tup h r => by simp only [T.lowR]; exact r.lows
  | _, _, .arg h r => by simp only [T.lowR]; exact r.lows
  | _, _, .tpx h r => by simp only [T.lowR]; exact r.lows
  | _, _, .lst h r => by simp only [T.lowR]; exact r.lows
  | _, _, .obj c n h nm r => by simp only [T.lowR]; exact r.lows
  | _, _, .ref h => by simp only [T.lowR]; exact decide_eq_true (List.getElem?_eq_some_iff.mp h).1
theorem Rps.lows : ∀ {ts : List T} {vs : List V}, Rps Y ρ H ts vs → lowRs ρ.ix.length ts = true
  | _, _, .nil => rfl
  | _, _, .cons a b => by simp only [lowRs, a.low, b.lows, Bool.and_self]
end
/-- ρ' is longer than ρ -/
structure Sub (ρ ρ' : Rh) : Prop where
  ix : ∃ m, ρ'.ix = ρ.ix ++ m
  bn : ρ'.bn = ρ.bn
theorem Sub.out (s : Sub ρ ρ') {a : Addr} (h : ρ'.out a) : ρ.out a := by
  obtain ⟨m, e⟩ := s.ix
  exact ⟨fun z => h.1 (by rw [e]; exact List.mem_append_left _ z), fun z => h.2 (by rw [s.bn]; exact z)⟩
mutual
theorem Rp.down (s : Sub ρ ρ') : ∀ {t : T} {v : V}, Rp Y ρ' H t v → t.lowR ρ.ix.length = true → Rp Y ρ H t v
  | _, _, .non, _ => .non
  | _, _, .bl b, _ => .bl b
  | _, _, .int i, _ => .int i
  | _, _, .str h, _ => .str h
  | _, _, .tup h r, q => by simp only [T.lowR] at q; exact .tup ⟨h.1, h.2.elim (fun z => .inl ⟨s.out z.1, z.2⟩) .inr⟩ (r.down s q)
  | _, _, .arg h r, q => by simp only [T.lowR] at q; exact .arg ⟨h.1, h.2.elim (fun z => .inl ⟨s.out z.1, z.2⟩) .inr⟩ (r.down s q)
  | _, _, .tpx h r, q => by simp only [T.lowR] at q; exact .tpx (h.to s.out fun _ _ => rfl) (r.down s q)
  | _, _, .lst h r, q => by simp only [T.lowR] at q; exact .lst ⟨h.1, s.out h.2.1, h.2.2⟩ (r.down s q)
  | _, _, .obj c n h nm r, q => by simp only [T.lowR] at q; exact .obj c (s.out n) h nm (r.down s q)
  | _, _, .ref h, q => by
    simp only [T.lowR] at q
    obtain ⟨m, e⟩ := s.ix
    rw [e, List.getElem?_append_left (of_decide_eq_true q)] at h
    exact .ref h
theorem Rps.down (s : Sub ρ ρ') : ∀ {ts : List T} {vs : List V}, Rps Y ρ' H ts vs → lowRs ρ.ix.length ts = true → Rps Y ρ H ts vs
  | _, _, .nil, _ => .nil
  | _, _, .cons a b, q => by
    simp only [lowRs, Bool.and_eq_true] at q
    exact .cons (a.down s q.1) (b.down s q.2)
end
theorem OR.down (s : Sub ρ ρ') {a : Addr} {o : VO} {H0 : Hp} {a0 : Addr} (r : OR Y ρ' H a o) (q : OR Y ρ H0 a0 o) : OR Y ρ H a o := by
  cases o with
  | lst ts => obtain ⟨vs, h1, hz, h2⟩ := r; obtain ⟨_, _, _, g⟩ := q; exact ⟨vs, h1, hz, h2.down s g.lows⟩
  | ins c fs => obtain ⟨C, dx, vfs, hc, h1, hn, h2⟩ := r; obtain ⟨_, _, _, _, _, _, g⟩ := q; exact ⟨C, dx, vfs, hc, h1, hn, h2.down s g.lows⟩
  | dct kvs => obtain ⟨vk, h1, h2, h3⟩ := r; obtain ⟨_, _, g2, g3⟩ := q; exact ⟨vk, h1, h2.down s g2.lows, h3.down s g3.lows⟩
  | dcT kvs => obtain ⟨vk, h1, h2, h3⟩ := r; obtain ⟨_, _, g2, g3⟩ := q; exact ⟨vk, h1, h2, h3.down s g3.lows⟩
  | dcF kvs => obtain ⟨z, vk, h1, h2, h3⟩ := r; obtain ⟨_, _, _, g2, g3⟩ := q; exact ⟨z, vk, h1, h2.down s g2.lows, h3.down s g3.lows⟩
  | dcN kvs => obtain ⟨xs, h1, h0, h2, h3⟩ := r; obtain ⟨_, _, _, g2, g3⟩ := q; exact ⟨xs, h1, h0, h2.down s g2.lows, h3.down s g3.lows⟩
  | tab nm => exact ⟨r.1, TbAt.to r.2 rfl fun c o z => ⟨s.out o, z⟩⟩
/-- the heap as it was -/
theorem HR.down {H0 : Hp} {h h' : VH} (s : Sub ρ ρ') (r : HR Y ρ' H h') (q : HR Y ρ H0 h) (e : h'.take h.length = h) : HR Y ρ H h := by
  obtain ⟨m, em⟩ := s.ix
  refine ⟨q.len, q.nd, fun a ha => ?_, fun a ha => r.bl a (by rw [s.bn]; exact ha), fun n o a h1 h2 => ?_, r.tbTo (fun _ o _ => s.out o) fun _ _ _ => rfl⟩
  · obtain ⟨b1, b2⟩ := r.bt a (by rw [s.bn]; exact ha)
    exact ⟨b1, fun z => b2 (by rw [em]; exact List.mem_append_left _ z)⟩
  · have hn : n < h.length := (List.getElem?_eq_some_iff.mp h1).1
    have h3 : h'[n]? = some o := by
      rw [← e, List.getElem?_take_of_lt hn] at h1
      exact h1
    have h4 : ρ'.ix[n]? = some a := by
      rw [em, List.getElem?_append_left (by rw [q.len]; exact hn)]
      exact h2
    exact (r.at_ n o a h3 h4).down s (q.at_ n o a h1 h2)
end
/-- a value without what is forgotten -/
def frz (n : Nat) (h : VH) : Nat → T → Option T
  | 0, t => if t.lowR n then some t else none
  | k + 1, t => if t.lowR n then some t else match t with
    | .tup ts => (ts.mapM (frz n h k)).map .tup
    | .lst ts => (ts.mapM (frz n h k)).map .lst
    | .obj c fs => (fs.mapM (frz n h k)).map (.obj c)
    | .ref j => (match h[j]? with
      | some (.lst ts) => (ts.mapM (frz n h k)).map .lst
      | some (.ins c fs) => (fs.mapM (frz n h k)).map (.obj c)
      | _ => none)
    | _ => none
section
variable {Y : Wd} {ρ ρ' : Rh} {H : Hp} {h : VH}
theorem mapM_rps {f : T → Option T} (hf : ∀ t v u, Rp Y ρ' H t v → f t = some u → Rp Y ρ H u v) : ∀ {ts : List T} {vs : List V} {us : List T}, Rps Y ρ' H ts vs → ts.mapM f = some us → Rps Y ρ H us vs
  | [], _, us, r, e => by
    cases r
    simp at e
    subst e
    exact .nil
  | t :: ts, _, us, r, e => by
    cases r with
    | cons a b =>
      rw [List.mapM_cons] at e
      cases e1 : f t with
      | none => rw [e1] at e; simp at e
      | some u =>
        rw [e1] at e
        cases e2 : ts.mapM f with
        | none => rw [e2] at e; simp at e
        | some us' =>
          rw [e2] at e
          simp at e
          subst e
          exact .cons (hf _ _ _ a e1) (mapM_rps hf b e2)
theorem frz_ok (s : Sub ρ ρ') (hr : HR Y ρ' H h) : ∀ (k : Nat) (t : T) (v : V) (u : T), Rp Y ρ' H t v → frz ρ.ix.length h k t = some u → Rp Y ρ H u v := by
  intro k
  induction k with
  | zero =>
    intro t v u r e
    unfold frz at e
    split at e
    · rename_i q; cases e; exact r.down s q
    · cases e
  | succ k ih =>
    intro t v u r e
    unfold frz at e
    split at e
    · rename_i q; cases e; exact r.down s q
    · cases r with
      | tup ta rs =>
        simp only at e
        rename_i a vs ts _
        cases e1 : ts.mapM (frz ρ.ix.length h k) with
        | none => rw [e1] at e; cases e
        | some us =>
          rw [e1] at e
          cases e
          exact .tup ⟨ta.1, ta.2.elim (fun z => .inl ⟨s.out z.1, z.2⟩) .inr⟩ (mapM_rps ih rs e1)
      | lst ta rs =>
        simp only at e
        rename_i a vs ts _
        cases e1 : ts.mapM (frz ρ.ix.length h k) with
        | none => rw [e1] at e; cases e
        | some us =>
          rw [e1] at e
          cases e
          exact .lst ⟨ta.1, s.out ta.2.1, ta.2.2⟩ (mapM_rps ih rs e1)
      | obj hc ho hh hn rs =>
        simp only at e
        rename_i c a C dx vfs fs _
        cases e1 : fs.mapM (frz ρ.ix.length h k) with
        | none => rw [e1] at e; cases e
        | some us =>
          rw [e1] at e
          cases e
          have r2 := mapM_rps ih rs e1
          have hl : us.length = fs.length := by rw [← r2.length, rs.length]
          exact .obj hc (s.out ho) hh (by rw [hl]; exact hn) r2
      | ref ha =>
        simp only at e
        rename_i j a q0
        have hj : ¬ j < ρ.ix.length := fun z => q0 (by simp only [T.lowR]; exact decide_eq_true z)
        have out : ρ.out a := by
          obtain ⟨m, em⟩ := s.ix
          refine ⟨fun z => ?_, fun z => (hr.bt a (by rw [s.bn]; exact z)).2 (List.mem_of_getElem? ha)⟩
          obtain ⟨i, hi, ei⟩ := List.getElem_of_mem z
          have e1 : ρ'.ix[i]? = some a := by rw [em, List.getElem?_append_left hi, List.getElem?_eq_getElem hi, ei]
          obtain ⟨w1, f1⟩ := List.getElem?_eq_some_iff.mp e1
          obtain ⟨w2, f2⟩ := List.getElem?_eq_some_iff.mp ha
          have : i = j := (List.getElem_inj hr.nd).mp (f1.trans f2.symm)
          omega
        cases eo : h[j]? with
        | none => rw [eo] at e; cases e
        | some o =>
          rw [eo] at e
          have q := hr.at_ j o a eo ha
          cases o with
          | lst ts =>
            simp only at e
            obtain ⟨vs, h1, hz, rs⟩ := q
            cases e1 : ts.mapM (frz ρ.ix.length h k) with
            | none => rw [e1] at e; cases e
            | some us =>
              rw [e1] at e
              cases e
              exact .lst ⟨hz, out, h1⟩ (mapM_rps ih rs e1)
          | ins c fs =>
            simp only at e
            obtain ⟨C, dx, vfs, hc, h1, hn, rs⟩ := q
            cases e1 : fs.mapM (frz ρ.ix.length h k) with
            | none => rw [e1] at e; cases e
            | some us =>
              rw [e1] at e
              cases e
              have r2 := mapM_rps ih rs e1
              have hl : us.length = fs.length := by rw [← r2.length, rs.length]
              exact .obj hc out h1 (by rw [hl]; exact hn) r2
          | dct kvs => cases e
          | dcT kvs => cases e
          | dcF kvs => cases e
          | dcN kvs => cases e
          | tab nm => cases e
      | _ => cases e
end
end TL
set_option Elab.async false
set_option linter.all false
set_option maxRecDepth 100000
set_option maxHeartbeats 4000000
namespace TL
open PySem PySem.Spec L2
def T.dat (h : VH) : Nat → T → Option PyData
  | _, .non => some .none
  | _, .bl b => some (.bool b)
  | _, .int i => some (.int i)
  | _, .str x => some (.str x)
  | k + 1, .tup ts => (ts.mapM (T.dat h k)).map .tuple
  | k + 1, .lst ts => (ts.mapM (T.dat h k)).map .list
  | k + 1, .ref n => match h[n]? with
    | some (.lst ts) => (ts.mapM (T.dat h k)).map .list
    | _ => none
  | _, _ => none
theorem dats_ok {Y : Wd} {ρ : Rh} {H : Hp} {f : T → Option PyData} {k : Nat} (hf : ∀ t v d, Rp Y ρ H t v → f t = some d → Dp Y.K H v d ∧ d.plain = true ∧ d.depth ≤ k) :
    ∀ {ts : List T} {vs : List V} {ds : List PyData}, Rps Y ρ H ts vs → ts.mapM f = some ds → DpAll Y.K H vs ds ∧ PyData.plainAll ds = true ∧ PyData.depthAll ds ≤ k
  | [], _, ds, r, e => by
    cases r
    simp at e
    subst e
    exact ⟨.nil, rfl, Nat.zero_le _⟩
  | t :: ts, _, ds, r, e => by
    cases r with
    | cons a b =>
      rw [List.mapM_cons] at e
      cases e1 : f t with
      | none => rw [e1] at e; simp at e
      | some u =>
        rw [e1] at e
        cases e2 : ts.mapM f with
        | none => rw [e2] at e; simp at e
        | some us' =>
          rw [e2] at e
          simp at e
          subst e
          obtain ⟨q1, q2, q3⟩ := hf _ _ _ a e1
          obtain ⟨p1, p2, p3⟩ := dats_ok hf b e2
          exact ⟨.cons q1 p1, by rw [PyData.plainAll, q2, p2]; rfl, by rw [PyData.depthAll]; exact Nat.max_le.mpr ⟨q3, p3⟩⟩
theorem dat_ok {Y : Wd} {ρ : Rh} {H : Hp} {h : VH} (hr : HR Y ρ H h) : ∀ (k : Nat) (t : T) (v : V) (d : PyData), Rp Y ρ H t v → T.dat h k t = some d → Dp Y.K H v d ∧ d.plain = true ∧ d.depth ≤ k := by
  intro k
  induction k with
  | zero =>
    intro t v d r e
    cases r with
    | non => simp [T.dat] at e; subst e; exact ⟨.non, rfl, Nat.le_refl _⟩
    | bl b => simp [T.dat] at e; subst e; exact ⟨.bl b, rfl, Nat.le_refl _⟩
    | int i => simp [T.dat] at e; subst e; exact ⟨.int i, rfl, Nat.le_refl _⟩
    | str hx => simp [T.dat] at e; subst e; exact ⟨.str _, rfl, Nat.le_refl _⟩
    | _ => simp [T.dat] at e
  | succ k ih =>
    intro t v d r e
    cases r with
    | non => simp [T.dat] at e; subst e; exact ⟨.non, rfl, Nat.zero_le _⟩
    | bl b => simp [T.dat] at e; subst e; exact ⟨.bl b, rfl, Nat.zero_le _⟩
    | int i => simp [T.dat] at e; subst e; exact ⟨.int i, rfl, Nat.zero_le _⟩
    | str hx => simp [T.dat] at e; subst e; exact ⟨.str _, rfl, Nat.zero_le _⟩
    | tup ta rs =>
      simp only [T.dat, Option.map_eq_some_iff] at e
      obtain ⟨ds, e1, rfl⟩ := e
      obtain ⟨q1, q2, q3⟩ := dats_ok (ih) rs e1
      exact ⟨.tup ta.sq q1, by simp only [PyData.plain]; exact q2, by rw [PyData.depth]; omega⟩
    | lst ta rs =>
      simp only [T.dat, Option.map_eq_some_iff] at e
      obtain ⟨ds, e1, rfl⟩ := e
      obtain ⟨q1, q2, q3⟩ := dats_ok (ih) rs e1
      exact ⟨.lst ta.sq q1, by simp only [PyData.plain]; exact q2, by rw [PyData.depth]; omega⟩
    | obj _ _ _ _ _ => simp [T.dat] at e
    | arg _ _ => simp [T.dat] at e
    | tpx _ _ => simp [T.dat] at e
    | @ref n a ha =>
      unfold T.dat at e
      split at e
      · rename_i ts eo
        simp only [Option.map_eq_some_iff] at e
        obtain ⟨ds, e1, rfl⟩ := e
        obtain ⟨vs, h1, hz, rs⟩ := hr.at_ n _ a eo ha
        obtain ⟨q1, q2, q3⟩ := dats_ok (ih) rs e1
        exact ⟨.lst (.of h1) q1, by simp only [PyData.plain]; exact q2, by rw [PyData.depth]; omega⟩
      · cases e
section
variable {X : Cx}
def rEqP (K : PySem.W.Frag) (g : PyData → PyData → Bool) : R2 := fun x y H Q => ∃ d e, Dp K H x d ∧ Dp K H y e ∧ d.plain = true ∧ e.plain = true ∧ d.depth ≤ 12 ∧ Q (.bl (g d e)) H
theorem op_eqP (hu : X.A.units + 80 < cLine) : OpR X (compareOp .Eq) (rEqP X.K fun d e => PyData.eqv d e) := by
  intro pins s σ H x y v u Q I rx ry h
  obtain ⟨d, e, hd, he, sd, se, hz, q⟩ := h
  obtain ⟨as, r1⟩ := Dp.reads I d x v hd rx
  obtain ⟨bs, r2⟩ := Dp.reads I e y u he ry
  exact SeqAt.eq_plain r1 r2 sd se (by omega) ⟨.bl _, H, I, rfl, q⟩
theorem op_neP (hu : X.A.units + 80 < cLine) : OpR X (compareOp .NotEq) (rEqP X.K fun d e => !PyData.eqv d e) := by
  intro pins s σ H x y v u Q I rx ry h
  obtain ⟨d, e, hd, he, sd, se, hz, q⟩ := h
  obtain ⟨as, r1⟩ := Dp.reads I d x v hd rx
  obtain ⟨bs, r2⟩ := Dp.reads I e y u he ry
  exact SeqAt.ne_plain r1 r2 sd se (by omega) ⟨.bl _, H, I, rfl, q⟩
def rInP (K : PySem.W.Frag) (neg : Bool) : R2 := fun x y H Q => ∃ d ds, Dp K H x d ∧ (Dp K H y (.list ds) ∨ Dp K H y (.tuple ds)) ∧ d.plain = true ∧ PyData.plainAll ds = true ∧ d.depth ≤ 12 ∧ Q (.bl (neg != ds.any fun z => PyData.eqv z d)) H
theorem op_inP (hu : X.A.units + 80 < cLine) : OpR X (compareOp .In) (rInP X.K false) := by
  intro pins s σ H x y v u Q I rx ry h
  obtain ⟨d, ds, hd, he, sd, se, hz, q⟩ := h
  obtain ⟨as, r1⟩ := Dp.reads I d x v hd rx
  rw [Bool.false_bne] at q
  rcases he with he | he
  · obtain ⟨bs, r2⟩ := Dp.reads I _ y u he ry
    exact SeqAt.in_list_data r2 r1 se sd (by omega) ⟨.bl _, H, I, rfl, q⟩
  · obtain ⟨bs, r2⟩ := Dp.reads I _ y u he ry
    exact SeqAt.in_tuple_data r2 r1 se sd (by omega) ⟨.bl _, H, I, rfl, q⟩
def rOrd (K : PySem.W.Frag) (g : PyData → PyData → Bool) : R2 := fun x y H Q => ∃ d e, Dp K H x d ∧ Dp K H y e ∧ PySem.W.alike d e = true ∧ d ≠ .none ∧ d.depth ≤ 12 ∧ Q (.bl (g d e)) H
theorem op_ltP (hu : X.A.units + 80 < cLine) : OpR X (compareOp .Lt) (rOrd X.K fun d e => PySem.W.dataLt d e) := by
  intro pins s σ H x y v u Q I rx ry h
  obtain ⟨d, e, hd, he, sd, se, hz, q⟩ := h
  obtain ⟨as, r1⟩ := Dp.reads I d x v hd rx
  obtain ⟨bs, r2⟩ := Dp.reads I e y u he ry
  exact PySem.W.lt_data r1 r2 sd se (by omega) ⟨.bl _, H, I, rfl, q⟩
theorem op_leP (hu : X.A.units + 80 < cLine) : OpR X (compareOp .LtE) (rOrd X.K fun d e => !PySem.W.dataLt e d) := by
  intro pins s σ H x y v u Q I rx ry h
  obtain ⟨d, e, hd, he, sd, se, hz, q⟩ := h
  obtain ⟨as, r1⟩ := Dp.reads I d x v hd rx
  obtain ⟨bs, r2⟩ := Dp.reads I e y u he ry
  exact PySem.W.le_data r1 r2 sd se (by omega) ⟨.bl _, H, I, rfl, q⟩
theorem op_gtP (hu : X.A.units + 80 < cLine) : OpR X (compareOp .Gt) (rOrd X.K fun d e => PySem.W.dataLt e d) := by
  intro pins s σ H x y v u Q I rx ry h
  obtain ⟨d, e, hd, he, sd, se, hz, q⟩ := h
  obtain ⟨as, r1⟩ := Dp.reads I d x v hd rx
  obtain ⟨bs, r2⟩ := Dp.reads I e y u he ry
  exact PySem.W.gt_data r1 r2 sd se (by omega) ⟨.bl _, H, I, rfl, q⟩
theorem op_geP (hu : X.A.units + 80 < cLine) : OpR X (compareOp .GtE) (rOrd X.K fun d e => !PySem.W.dataLt d e) := by
  intro pins s σ H x y v u Q I rx ry h
  obtain ⟨d, e, hd, he, sd, se, hz, q⟩ := h
  obtain ⟨as, r1⟩ := Dp.reads I d x v hd rx
  obtain ⟨bs, r2⟩ := Dp.reads I e y u he ry
  exact PySem.W.ge_data r1 r2 sd se (by omega) ⟨.bl _, H, I, rfl, q⟩
end
section
variable {X : Cx} {Y : Wd}
theorem OT.or {r r' : R2} {b : T → T → VH → Res T} (h : ∀ ρ H t1 t2 v1 v2 h t h' Q, Rp Y ρ H t1 v1 → Rp Y ρ H t2 v2 → HR Y ρ H h → b t1 t2 h = .ok t h' → To Y (Rp Y) ρ H t h' Q → r v1 v2 H Q ∨ r' v1 v2 H Q) : OT Y (fun x y H Q => r x y H Q ∨ r' x y H Q) b := h
def bEqG (g : PyData → PyData → Bool) : T → T → VH → Res T := fun a b h => match a.dat h 10, b.dat h 10 with
  | some x, some y => .ok (.bl (g x y)) h
  | _, _ => .bad
def bEq := bEqG fun d e => PyData.eqv d e
def bNe := bEqG fun d e => !PyData.eqv d e
theorem ot_eqG (g : PyData → PyData → Bool) : OT Y (rEqP Y.K g) (bEqG g) := fun ρ H t1 t2 v1 v2 h t h' Q r1 r2 hr e to => by
  unfold bEqG at e
  split at e
  · rename_i x y e1 e2
    cases e
    obtain ⟨p1, p2, p3⟩ := dat_ok hr _ _ _ _ r1 e1
    obtain ⟨q1, q2, q3⟩ := dat_ok hr _ _ _ _ r2 e2
    exact ⟨x, y, p1, q1, p2, q2, by omega, to.to ρ H _ .refl hr (.bl _)⟩
  · cases e
def notNone : PyData → Bool
  | .none => false
  | _ => true
theorem notNone_ne {d : PyData} (h : notNone d = true) : d ≠ .none := fun z => by subst z; cases h
def bOrdD (g : PyData → PyData → Bool) (a b : T) (h : VH) : Res T := match a.dat h 10, b.dat h 10 with
  | some x, some y => if (PySem.W.alike x y && notNone x) = true then .ok (.bl (g x y)) h else .bad
  | _, _ => .bad
def bOrdG (g : PyData → PyData → Bool) (gi : Int → Int → Bool) (a b : T) (h : VH) : Res T := match a, b with
  | .int i, .int j => .ok (.bl (gi i j)) h
  | a, b => bOrdD g a b h
def bLt := bOrdG (fun d e => PySem.W.dataLt d e) fun i j => decide (i < j)
def bLe := bOrdG (fun d e => !PySem.W.dataLt e d) fun i j => decide (i ≤ j)
def bGt := bOrdG (fun d e => PySem.W.dataLt e d) fun i j => decide (j < i)
def bGe := bOrdG (fun d e => !PySem.W.dataLt d e) fun i j => decide (j ≤ i)
def rO (K : PySem.W.Frag) (g : PyData → PyData → Bool) (gi : Int → Int → Bool) : R2 := fun x y H Q => rI0 (fun i j => .bl (gi i j)) x y H Q ∨ rOrd K g x y H Q
theorem ot_ord (g : PyData → PyData → Bool) (gi : Int → Int → Bool) : OT Y (rO Y.K g gi) (bOrdG g gi) := fun ρ H t1 t2 v1 v2 h t h' Q r1 r2 hr e to => by
  unfold bOrdG at e
  split at e
  · cases e
    cases r1
    cases r2
    exact .inl ⟨_, _, rfl, rfl, to.to ρ H _ .refl hr (.bl _)⟩
  · unfold bOrdD at e
    split at e
    · rename_i x y e1 e2
      split at e
      · rename_i c
        cases e
        rw [Bool.and_eq_true] at c
        obtain ⟨p1, p2, p3⟩ := dat_ok hr _ _ _ _ r1 e1
        obtain ⟨q1, q2, q3⟩ := dat_ok hr _ _ _ _ r2 e2
        exact .inr ⟨x, y, p1, q1, c.1, notNone_ne c.2, by omega, to.to ρ H _ .refl hr (.bl _)⟩
      · cases e
    · cases e
theorem oLt (hu : X.A.units + 80 < cLine) : OpR X (compareOp .Lt) (rO X.K (fun d e => PySem.W.dataLt d e) fun i j => decide (i < j)) := op_lt.or (op_ltP hu)
theorem oLe (hu : X.A.units + 80 < cLine) : OpR X (compareOp .LtE) (rO X.K (fun d e => !PySem.W.dataLt e d) fun i j => decide (i ≤ j)) := op_le.or (op_leP hu)
theorem oGt (hu : X.A.units + 80 < cLine) : OpR X (compareOp .Gt) (rO X.K (fun d e => PySem.W.dataLt e d) fun i j => decide (j < i)) := op_gt.or (op_gtP hu)
theorem oGe (hu : X.A.units + 80 < cLine) : OpR X (compareOp .GtE) (rO X.K (fun d e => !PySem.W.dataLt d e) fun i j => decide (j ≤ i)) := op_ge.or (op_geP hu)
def bInS (neg : Bool) (a b : Str) : Bool := neg != !(Builtin.Str.occurrences b a 0 b.length 1).isEmpty
def bInG (neg : Bool) (a b : T) (h : VH) : Res T := match a, b with
  | .str x, .str y => .ok (.bl (bInS neg x y)) h
  | a, b => match a.dat h 10, b.dat h 11 with
    | some d, some (.list ds) => .ok (.bl (neg != ds.any fun z => PyData.eqv z d)) h
    | some d, some (.tuple ds) => .ok (.bl (neg != ds.any fun z => PyData.eqv z d)) h
    | _, _ => .bad
def bIn := bInG false
def rInA (K : PySem.W.Frag) (neg : Bool) : R2 := fun x y H Q => (∃ i j, x = .str i ∧ y = .str j ∧ Q (.bl (bInS neg i j)) H) ∨ rInP K neg x y H Q
theorem ot_in (neg : Bool) : OT Y (rInA Y.K neg) (bInG neg) := fun ρ H t1 t2 v1 v2 h t h' Q r1 r2 hr e to => by
  unfold bInG at e
  split at e
  · cases e
    cases r1
    cases r2
    exact .inl ⟨_, _, rfl, rfl, to.to ρ H _ .refl hr (.bl _)⟩
  · split at e
    · rename_i d ds e1 e2
      cases e
      obtain ⟨p1, p2, p3⟩ := dat_ok hr _ _ _ _ r1 e1
      obtain ⟨q1, q2, q3⟩ := dat_ok hr _ _ _ _ r2 e2
      exact .inr ⟨d, ds, p1, .inl q1, p2, by simpa only [PyData.plain] using q2, by omega, to.to ρ H _ .refl hr (.bl _)⟩
    · rename_i d ds e1 e2
      cases e
      obtain ⟨p1, p2, p3⟩ := dat_ok hr _ _ _ _ r1 e1
      obtain ⟨q1, q2, q3⟩ := dat_ok hr _ _ _ _ r2 e2
      exact .inr ⟨d, ds, p1, .inr q1, p2, by simpa only [PyData.plain] using q2, by omega, to.to ρ H _ .refl hr (.bl _)⟩
    · cases e
theorem oIn (hu : X.A.units + 80 < cLine) : OpR X (compareOp .In) (rInA X.K false) := by
  refine OpR.or (r := fun x y H Q => ∃ i j, x = .str i ∧ y = .str j ∧ Q (.bl (bInS false i j)) H) (fun pins s σ H x y v u Q I rx ry h => ?_) (op_inP hu)
  obtain ⟨i, j, e1, e2, q⟩ := h
  exact op_in_str pins s σ H x y v u Q I rx ry ⟨i, j, e1, e2, by unfold bInS at q; rw [Bool.false_bne] at q; exact q⟩
def isNon : T → Bool
  | .non => true
  | _ => false
def bIsG (neg : Bool) (a b : T) (h : VH) : Res T := match b with
  | .non => .ok (.bl (neg != isNon a)) h
  | _ => .bad
def bIs := bIsG false
def bIsn := bIsG true
theorem isNon_ok {ρ : Rh} {H : Hp} {t : T} {v : V} (r : Rp Y ρ H t v) : isNon t = decide (v = .non) := by cases r <;> simp [isNon]
theorem ot_is : OT Y (fun x y H Q => y = V.non ∧ Q (.bl (decide (x = V.non))) H) bIs := fun ρ H t1 t2 v1 v2 h t h' Q r1 r2 hr e to => by
  unfold bIs bIsG at e
  split at e
  · cases e
    cases r2
    exact ⟨rfl, to.to ρ H _ .refl hr (by rw [Bool.false_bne, isNon_ok r1]; exact .bl _)⟩
  · cases e
theorem ot_isn : OT Y (fun x y H Q => y = V.non ∧ Q (.bl (!decide (x = V.non))) H) bIsn := fun ρ H t1 t2 v1 v2 h t h' Q r1 r2 hr e to => by
  unfold bIsn bIsG at e
  split at e
  · cases e
    cases r2
    exact ⟨rfl, to.to ρ H _ .refl hr (by rw [Bool.true_bne, isNon_ok r1]; exact .bl _)⟩
  · cases e
def bI (c : Int → Int → Bool) (g : Int → Int → Int) (a b : T) (h : VH) : Res T := match a, b with
  | .int i, .int j => if c i j = true then .ok (.int (g i j)) h else .bad
  | _, _ => .bad
def bI0 (g : Int → Int → Int) (a b : T) (h : VH) : Res T := match a, b with
  | .int i, .int j => .ok (.int (g i j)) h
  | _, _ => .bad
theorem ot_I0 (g : Int → Int → Int) : OT Y (rI0 fun i j => .int (g i j)) (bI0 g) := fun ρ H t1 t2 v1 v2 h t h' Q r1 r2 hr e to => by
  unfold bI0 at e
  split at e
  · cases e
    cases r1
    cases r2
    exact ⟨_, _, rfl, rfl, to.to ρ H _ .refl hr (.int _)⟩
  · cases e
theorem ot_I {C : Int → Int → Prop} {c : Int → Int → Bool} (g : Int → Int → Int) (hc : ∀ i j, c i j = true → C i j) : OT Y (rI C fun i j => .int (g i j)) (bI c g) := fun ρ H t1 t2 v1 v2 h t h' Q r1 r2 hr e to => by
  unfold bI at e
  split at e
  · split at e
    · rename_i c'
      cases e
      cases r1
      cases r2
      exact ⟨_, _, rfl, rfl, hc _ _ c', to.to ρ H _ .refl hr (.int _)⟩
    · cases e
  · cases e
def bSub := bI0 fun i j => i - j
def bMod := bI (fun _ j => decide (0 < j)) fun i j => i % j
def bFdv := bI (fun i j => decide (0 < j) && decide (j < 1073741824)) fun i j => i / j
def bPow := bI (fun i j => decide (0 ≤ j) && decide (j ≤ 1000) && decide (i.natAbs < 1000000)) fun i j => i ^ j.toNat
def cMul (i j : Int) : Bool := (decide (-1000000000000000000 < i) && decide (i < 1000000000000000000)) || (decide (-1000000000000000000 < j) && decide (j < 1000000000000000000))
theorem ot_sub : OT Y (rI0 fun i j => .int (i - j)) bSub := ot_I0 _
theorem ot_mod : OT Y (rI (fun x j => 0 < j) fun i j => .int (i % j)) bMod := ot_I _ fun i j h => of_decide_eq_true h
theorem ot_fdv : OT Y (rI CDiv fun i j => .int (i / j)) bFdv := ot_I _ fun i j h => by rw [Bool.and_eq_true] at h; exact ⟨of_decide_eq_true h.1, of_decide_eq_true h.2⟩
theorem ot_pow : OT Y (rI CPow fun i j => .int (i ^ j.toNat)) bPow := ot_I _ fun i j h => by
  rw [Bool.and_eq_true, Bool.and_eq_true] at h
  have h1 := of_decide_eq_true h.1.1
  have h2 := of_decide_eq_true h.1.2
  have h3 := of_decide_eq_true h.2
  exact ⟨h1, by omega, by omega⟩
theorem cMul_ok {i j : Int} (h : cMul i j = true) : CMul i j := by
  unfold cMul at h
  rw [Bool.or_eq_true, Bool.and_eq_true, Bool.and_eq_true] at h
  rcases h with h | h
  · have h1 := of_decide_eq_true h.1
    have h2 := of_decide_eq_true h.2
    exact .inl ⟨by omega, by omega⟩
  · have h1 := of_decide_eq_true h.1
    have h2 := of_decide_eq_true h.2
    exact .inr ⟨by omega, by omega⟩
def bAdd (a b : T) (h : VH) : Res T := match a, b with
  | .int i, .int j => .ok (.int (i + j)) h
  | .str x, .str y => if x.length + y.length ≤ 1000000 then .ok (.str (x ++ y)) h else .bad
  | .tup x, .tup y => if x.length + y.length ≤ 16777216 then .ok (.tup (x ++ y)) h else .bad
  | a, b => match listOf h a, listOf h b with
    | some x, some y => if x.length + y.length ≤ 16777216 then .ok (.lst (x ++ y)) h else .bad
    | _, _ => .bad
def rAddS : R2 := fun x y H Q => ∃ i j, x = .str i ∧ y = .str j ∧ i.length + j.length ≤ sizeLine ∧ Q (.str (i ++ j)) H
def rAdd (K : PySem.W.Frag) : R2 := fun x y H Q => rI0 (fun i j => .int (i + j)) x y H Q ∨ rAddS x y H Q ∨ rCatA K x y H Q ∨ rCat x y H Q
theorem oAdd : OpR X (binaryOp .Add) (rAdd X.K) := op_add.or (OpR.or (r := rAddS) op_add_str (op_catA.or op_cat))
theorem len_app (x y : Str) : (x ++ y).length = x.length + y.length := by
  show (x.cps ++ y.cps).size = _
  rw [Array.size_append]; rfl
theorem newL' {ρ : Rh} {H : Hp} {h : VH} {ts : List T} {vs : List V} {D : Addr} (hr : HR Y ρ H h) (rs : Rps Y ρ H ts vs) (hz : vs.length ≤ sizeLine) (hD : H D = none) : HR Y ρ (upd H D (.lst vs)) h ∧ Rp Y ρ (upd H D (.lst vs)) (.lst ts) (.ref D) :=
  let ⟨a, b, c, _⟩ := newL hr rs hz hD
  ⟨a, .lst b c⟩
theorem ot_add : OT Y (rAdd Y.K) bAdd := fun ρ H t1 t2 v1 v2 h t h' Q r1 r2 hr e to => by
  unfold bAdd at e
  split at e
  · cases e
    cases r1
    cases r2
    exact .inl ⟨_, _, rfl, rfl, to.to ρ H _ .refl hr (.int _)⟩
  · split at e
    · rename_i hz
      cases e
      cases r1
      cases r2
      exact .inr (.inl ⟨_, _, rfl, rfl, by rw [sizeLine_eq]; omega, to.to ρ H _ .refl hr (.str (by rw [len_app]; exact hz))⟩)
    · cases e
  · split at e
    · rename_i hz
      cases e
      cases r1 with
      | tup ta ra =>
        cases r2 with
        | tup tb rb =>
          refine .inr (.inr (.inl ⟨_, _, _, _, rfl, rfl, ta.sq, tb.sq, by rw [ra.length, rb.length, sizeLine_eq]; exact hz, fun z => ?_, fun z0 z => ?_, fun _ _ p hp => ?_⟩))
          · subst z
            cases ra
            exact to.to ρ H _ .refl hr (.tup tb rb)
          · subst z
            cases rb
            rw [List.append_nil] at to
            exact to.to ρ H _ .refl hr (.tup ta ra)
          · obtain ⟨n1, n2⟩ := newT hr (ra.append rb) (by rw [List.length_append, ra.length, rb.length, sizeLine_eq]; exact hz) hp
            exact to.to ρ _ _ (Ev.new hp) n1 n2
    · cases e
  · split at e
    · rename_i x y e1 e2
      split at e
      · rename_i hz
        cases e
        obtain ⟨a, va, rfl, ha, hza, ra⟩ := listOf_ok' r1 hr e1
        obtain ⟨b, vb, rfl, hb, hzb, rb⟩ := listOf_ok' r2 hr e2
        have hl : va.length + vb.length ≤ sizeLine := by rw [ra.length, rb.length, sizeLine_eq]; exact hz
        refine .inr (.inr (.inr ⟨a, b, va, vb, rfl, rfl, ha, hb, hl, fun p hp => ?_⟩))
        obtain ⟨n1, n2⟩ := newL' hr (ra.append rb) (by rw [List.length_append]; exact hl) hp
        exact to.to ρ _ _ (Ev.new hp) n1 n2
      · cases e
    · cases e
theorem Rps.rep {ρ : Rh} {H : Hp} {ts : List T} {vs : List V} (r : Rps Y ρ H ts vs) : ∀ k : Nat, Rps Y ρ H (List.replicate k ts).flatten (List.replicate k vs).flatten
  | 0 => .nil
  | k + 1 => by
    simp only [List.replicate_succ, List.flatten_cons]
    exact r.append (r.rep k)
theorem rep_len {α : Type} (l : List α) (k : Nat) : (List.replicate k l).flatten.length = k * l.length := by simp
def bMul (a b : T) (h : VH) : Res T := match a, b with
  | .int i, .int j => if cMul i j = true then .ok (.int (i * j)) h else .bad
  | a, .int k => match listOf h a with
    | some x => if x.length * k.toNat ≤ 16777216 ∧ -1000000000 ≤ k ∧ k ≤ 1000000000 then .ok (.lst (List.replicate k.toNat x).flatten) h else .bad
    | _ => .bad
  | _, _ => .bad
def rMul : R2 := fun x y H Q => rI CMul (fun i j => .int (i * j)) x y H Q ∨ rRep x y H Q
theorem oMul : OpR X (binaryOp .Mult) rMul := op_mul.or op_rep
theorem ot_mul : OT Y rMul bMul := fun ρ H t1 t2 v1 v2 h t h' Q r1 r2 hr e to => by
  unfold bMul at e
  split at e
  · split at e
    · rename_i c
      cases e
      cases r1
      cases r2
      exact .inl ⟨_, _, rfl, rfl, cMul_ok c, to.to ρ H _ .refl hr (.int _)⟩
    · cases e
  · split at e
    · rename_i x e1
      split at e
      · rename_i hz
        cases e
        cases r2
        obtain ⟨a, va, rfl, ha, hza, ra⟩ := listOf_ok' r1 hr e1
        have hl := hz.1
        rw [← ra.length, ← sizeLine_eq] at hl
        refine .inr ⟨a, _, va, rfl, rfl, ha, by omega, by omega, hl, fun p hp => ?_⟩
        obtain ⟨n1, n2⟩ := newL' hr (ra.rep _) (by rw [rep_len, Nat.mul_comm]; exact hl) hp
        exact to.to ρ _ _ (Ev.new hp) n1 n2
      · cases e
    · cases e
  · cases e
theorem atI_rps {ρ : Rh} {H : Hp} {ts : List T} {vs : List V} {i : Int} {t : T} (r : Rps Y ρ H ts vs) (e : atI ts i = some t) : ∃ v, atI vs i = some v ∧ Rp Y ρ H t v := by
  unfold atI at e ⊢
  rw [r.length]
  cases q : ixN ts.length i with
  | none => rw [q] at e; cases e
  | some j => rw [q] at e; exact r.get e
def bIx (a b : T) (h : VH) : Res T := match a, b with
  | .tup ts, .int i => (match atI ts i with
    | some t => .ok t h
    | none => .bad)
  | .arg ts, .int i => (match atI ts i with
    | some t => .ok t h
    | none => .bad)
  | .str z, .int i => (match atI z.cps.toList i with
    | some c => .ok (.str ⟨#[c]⟩) h
    | none => .bad)
  | a, .int i => (match listOf h a with
    | some ts => (match atI ts i with
      | some t => .ok t h
      | none => .bad)
    | none => .bad)
  | _, _ => .bad
theorem ot_ix : OT Y (rIx Y.K) bIx := fun ρ H t1 t2 v1 v2 h t h' Q r1 r2 hr e to => by
  unfold bIx at e
  split at e
  · split at e
    · rename_i q
      cases e
      cases r2
      cases r1 with
      | tup ta rs =>
        obtain ⟨v, ev, rv⟩ := atI_rps rs q
        exact .inr (.inl ⟨_, _, _, v, rfl, rfl, ta.sq, ev, to.to ρ H _ .refl hr rv⟩)
    · cases e
  · split at e
    · rename_i q
      cases e
      cases r2
      cases r1 with
      | arg ta rs =>
        obtain ⟨v, ev, rv⟩ := atI_rps rs q
        exact .inl ⟨_, _, _, v, rfl, rfl, ta.sq, ev, to.to ρ H _ .refl hr rv⟩
    · cases e
  · split at e
    · rename_i q
      cases e
      cases r2
      cases r1 with
      | str hz => exact .inr (.inr ⟨_, _, _, rfl, rfl, by rw [sizeLine_eq]; omega, q, to.to ρ H _ .refl hr (.str (by show (#[_] : Array Nat).size ≤ _; simp))⟩)
    · cases e
  · split at e
    · rename_i x e1
      split at e
      · rename_i q
        cases e
        cases r2
        obtain ⟨a, va, rfl, ha, hza, ra⟩ := listOf_ok r1 hr e1
        obtain ⟨v, ev, rv⟩ := atI_rps ra q
        exact .inl ⟨_, _, _, v, rfl, rfl, ha, ev, to.to ρ H _ .refl hr rv⟩
      · cases e
    · cases e
  · cases e
theorem xIx {a b : Expr} {f g : ME} {pos : Pos} (hK : X.K = Y.K) (ha : PE X a (TM Y f)) (hb : PE X b (TM Y g)) (hs : PlainIx b) : PE X (.Subscript a b pos) (TM Y (eOp bIx f g)) :=
  pe_imp (pe_ix (by rw [← hK]; exact ix_seq) ha hb hs) fun σ H Q q => tm_op ot_ix q
abbrev MO := TS_ → VH → Res (Option Int)
def TMO (Y : Wd) (f : MO) : TO := fun σ H Q => ∃ ρ τ h t h', Go Y ρ H τ σ h ∧ f τ h = .ok t h' ∧ To Y (fun _ _ a b => a = b) ρ H t h' Q
def oNo : MO := fun _ h => .ok none h
def oSome (f : ME) : MO := fun τ h => match f τ h with
  | .ok (.int i) h1 => .ok (some i) h1
  | _ => .bad
theorem po_imp {e : Option Expr} {t t' : TO} (h : PO X e t) (i : ∀ σ H Q, t' σ H Q → t σ H Q) : PO X e t' := ⟨fun pins s σ H Q I q => h.run pins s σ H Q I (i _ _ _ q)⟩
theorem xoNo : PO X none (TMO Y oNo) := po_imp po_none fun σ H Q q => by
  obtain ⟨ρ, τ, h, t, h', G, e, to⟩ := q
  cases e
  exact to.to ρ H _ .refl G.hr rfl
theorem xoSome {e : Expr} {f : ME} (he : PE X e (TM Y f)) : PO X (some e) (TMO Y (oSome f)) := po_imp (po_some he) fun σ H Q q => by
  obtain ⟨ρ, τ, h, t, h', G, e, to⟩ := q
  unfold oSome at e
  split at e
  · rename_i i h1 e1
    cases e
    exact ⟨ρ, τ, h, _, _, G, e1, ⟨fun ρ1 H1 v ev hr r => by cases r; exact ⟨_, rfl, to.to ρ1 H1 _ ev hr rfl⟩⟩⟩
  · cases e
def cutT (xs : List T) (lo hi : Option Int) : List T := (xs.drop (HT.sIx xs.length 0 lo)).take (HT.sIx xs.length xs.length hi - HT.sIx xs.length 0 lo)
def bSl (a : T) (lo hi : Option Int) (h : VH) : Res T := match a with
  | .tup ts => .ok (.tup (cutT ts lo hi)) h
  | .arg ts => .ok (.lst (cutT ts lo hi)) h
  | .str z => .ok (.str (cutS z lo hi)) h
  | a => match listOf h a with
    | some ts => .ok (.lst (cutT ts lo hi)) h
    | none => .bad
def eSl (f : ME) (lo hi : MO) : ME := fun τ h => match f τ h with
  | .ok a h1 => (match lo τ h1 with
    | .ok l h2 => (match hi τ h2 with
      | .ok u h3 => bSl a l u h3
      | .bad => .bad)
    | .bad => .bad)
  | .bad => .bad
def rSl (K : PySem.W.Frag) : V → Option Int → Option Int → Hp → VK → Prop := fun x lo hi H Q => rSlL K x lo hi H Q ∨ rSlA K x lo hi H Q ∨ rSlS x lo hi H Q
theorem oSl : SlR X (rSl X.K) := sl_list.or (sl_tupA.or sl_str)
theorem cut_rps {ρ : Rh} {H : Hp} {ts : List T} {vs : List V} (lo hi : Option Int) (r : Rps Y ρ H ts vs) : Rps Y ρ H (cutT ts lo hi) (cutV vs lo hi) := by
  unfold cutT cutV
  rw [r.length]
  exact (r.drop _).take _
theorem cut_whole (vs : List V) (lo hi : Option Int) (h : HT.sIx vs.length 0 lo = 0 ∧ HT.sIx vs.length vs.length hi = vs.length) : cutV vs lo hi = vs := by
  unfold cutV
  rw [h.1, h.2]; simp
theorem sl_ok {ρ : Rh} {H : Hp} {a : T} {va : V} {lo hi : Option Int} {h h' : VH} {t : T} {Q : VK} (ra : Rp Y ρ H a va) (hr : HR Y ρ H h) (e : bSl a lo hi h = .ok t h') (to : To Y (Rp Y) ρ H t h' Q) : rSl Y.K va lo hi H Q := by
  unfold bSl at e
  split at e
  · cases e
    cases ra with
    | tup ta rs =>
      have rc := cut_rps lo hi rs
      refine .inr (.inl ⟨_, _, rfl, ta.sq, fun w => ?_, fun w p hp => ?_⟩)
      · rw [cut_whole _ _ _ w] at rc
        exact to.to ρ H _ .refl hr (.tup ta rc)
      · obtain ⟨n1, n2⟩ := newT hr rc (Nat.le_trans (cutV_length _ _ _) ta.1) hp
        exact to.to ρ _ _ (Ev.new hp) n1 n2
  · cases e
    cases ra with
    | arg ta rs =>
      refine .inl ⟨_, _, rfl, ta.sq, fun p hp => ?_⟩
      obtain ⟨n1, n2⟩ := newL' hr (cut_rps lo hi rs) (Nat.le_trans (cutV_length _ _ _) ta.1) hp
      exact to.to ρ _ _ (Ev.new hp) n1 n2
  · cases e
    cases ra with
    | str hz => exact .inr (.inr ⟨_, rfl, by rw [sizeLine_eq]; omega, to.to ρ H _ .refl hr (.str (Nat.le_trans (cutS_length _ _ _) hz))⟩)
  · split at e
    · rename_i ts e1
      cases e
      obtain ⟨b, vb, rfl, hb, hz, rb⟩ := listOf_ok ra hr e1
      refine .inl ⟨b, vb, rfl, hb, fun p hp => ?_⟩
      obtain ⟨n1, n2⟩ := newL' hr (cut_rps lo hi rb) (Nat.le_trans (cutV_length _ _ _) hz) hp
      exact to.to ρ _ _ (Ev.new hp) n1 n2
    · cases e
theorem xSl {e : Expr} {lo hi : Option Expr} {f : ME} {l u : MO} {pos p2 : Pos} (hK : X.K = Y.K) (he : PE X e (TM Y f)) (hl : PO X lo (TMO Y l)) (hu : PO X hi (TMO Y u)) : PE X (.Subscript e (.Slice lo hi none p2) pos) (TM Y (eSl f l u)) :=
  pe_imp (pe_slice (r := rSl Y.K) (by rw [← hK]; exact oSl) he hl hu) fun σ H Q q => by
    obtain ⟨ρ, τ, h, t, h', G, e, to⟩ := q
    unfold eSl at e
    cases e1 : f τ h with
    | bad => simp only [e1] at e; cases e
    | ok a h1 =>
      simp only [e1] at e
      cases e2 : l τ h1 with
      | bad => simp only [e2] at e; cases e
      | ok lv h2 =>
        simp only [e2] at e
        cases e3 : u τ h2 with
        | bad => simp only [e3] at e; cases e
        | ok uv h3 =>
          simp only [e3] at e
          refine ⟨ρ, τ, h, a, h1, G, e1, ⟨fun ρ1 H1 va ev hr1 ra => ⟨ρ1, τ, h1, lv, h2, G.ev ev hr1, e2, ⟨fun ρ2 H2 vl ev2 hr2 el => ?_⟩⟩⟩⟩
          subst el
          refine ⟨ρ2, τ, h2, uv, h3, G.ev (ev.trans ev2) hr2, e3, ⟨fun ρ3 H3 vu ev3 hr3 eu => ?_⟩⟩
          subst eu
          exact sl_ok (ra.ev (ev2.trans ev3).toEvR) hr3 e (to.ev ((ev.trans ev2).trans ev3))
def eNeg (f : ME) : ME := fun τ h => match f τ h with
  | .ok (.int i) h1 => .ok (.int (-i)) h1
  | _ => .bad
end
end TL
set_option Elab.async false
set_option linter.all false
set_option maxRecDepth 100000
set_option maxHeartbeats 4000000
namespace TL
open PySem PySem.Spec L2
section
variable {X : Cx} {Y : Wd}
theorem xNeg {a : Expr} {f : ME} {pos : Pos} (ha : PE X a (TM Y f)) : PE X (.UnaryOp .USub a pos) (TM Y (eNeg f)) := pe_imp (pe_un un_neg ha) fun σ H Q q => by
  obtain ⟨ρ, τ, h, t, h', G, e, to⟩ := q
  unfold eNeg at e
  split at e
  · rename_i i h1 e1
    cases e
    exact ⟨ρ, τ, h, _, _, G, e1, ⟨fun ρ1 H1 v ev hr r => by cases r; exact ⟨_, rfl, to.to ρ1 H1 _ ev hr (.int _)⟩⟩⟩
  · cases e
def eChain (b b' : T → T → VH → Res T) (f g k : ME) : ME := fun τ h => match f τ h with
  | .ok x h1 => (match g τ h1 with
    | .ok y h2 => (match b x y h2 with
      | .ok (.bl true) h3 => (match k τ h3 with
        | .ok z h4 => b' y z h4
        | .bad => .bad)
      | .ok (.bl false) h3 => .ok (.bl false) h3
      | _ => .bad)
    | .bad => .bad)
  | .bad => .bad
theorem tm_chain {r r' : R2} {b b' : T → T → VH → Res T} (o1 : OT Y r b) (o2 : OT Y r' b') {f g k : ME} {σ : St} {H : Hp} {Q : VK} (q : TM Y (eChain b b' f g k) σ H Q) : tChain r r' (TM Y f) (TM Y g) (TM Y k) σ H Q := by
  obtain ⟨ρ, τ, h, t, h', G, e, to⟩ := q
  unfold eChain at e
  cases e1 : f τ h with
  | bad => simp only [e1] at e; cases e
  | ok x h1 =>
    simp only [e1] at e
    refine ⟨ρ, τ, h, x, h1, G, e1, ⟨fun ρ1 H1 vx ev1 hr1 rx => ?_⟩⟩
    cases e2 : g τ h1 with
    | bad => simp only [e2] at e; cases e
    | ok y h2 =>
      simp only [e2] at e
      refine ⟨ρ1, τ, h1, y, h2, G.ev ev1 hr1, e2, ⟨fun ρ2 H2 vy ev2 hr2 ry => ?_⟩⟩
      have ev12 := ev1.trans ev2
      split at e
      · rename_i h3 e3
        refine o1 ρ2 H2 x y vx vy h2 _ h3 _ (rx.ev ev2.toEvR) ry hr2 e3 ⟨fun ρ3 H3 v3 ev3 hr3 r3 => ?_⟩
        cases r3
        refine ⟨true, rfl, iteT ?_⟩
        have ev13 := ev12.trans ev3
        cases e4 : k τ h3 with
        | bad => simp only [e4] at e; cases e
        | ok z h4 =>
          simp only [e4] at e
          exact ⟨ρ3, τ, h3, z, h4, G.ev ev13 hr3, e4, ⟨fun ρ4 H4 vz ev4 hr4 rz => o2 ρ4 H4 y z vy vz h4 t h' Q (ry.ev (ev3.trans ev4).toEvR) rz hr4 e (to.ev (ev13.trans ev4))⟩⟩
      · rename_i h3 e3
        cases e
        refine o1 ρ2 H2 x y vx vy h2 _ _ _ (rx.ev ev2.toEvR) ry hr2 e3 ⟨fun ρ3 H3 v3 ev3 hr3 r3 => ?_⟩
        cases r3
        exact ⟨false, rfl, iteF (to.to ρ3 H3 _ (ev12.trans ev3) hr3 (.bl _))⟩
      · cases e
theorem xtChain {a b c : Expr} {pos : Pos} {op op' : CmpOp} {r r' : R2} {bb bb' : T → T → VH → Res T} (t1 : OT Y r bb) (t2 : OT Y r' bb') {f g k : ME} (o1 : OpR X (compareOp op) r) (o2 : OpR X (compareOp op') r') (ha : PE X a (TM Y f)) (hb : PE X b (TM Y g)) (hc : PE X c (TM Y k))
    (hm : lastMarks [op, op'] [b, c] = false := by with_unfolding_all rfl) : PT X (.Compare a [op, op'] [b, c] pos) (TMB Y (bTest (eChain bb bb' f g k))) := pt_imp (pt_chain o1 o2 ha hb hc hm) fun σ H Q q => by
  obtain ⟨ρ, τ, h, u, h', G, e, to⟩ := q
  refine tm_chain t1 t2 (Q := fun x H' => ∃ k, x = .bl k ∧ Q k H') ?_
  unfold bTest at e
  split at e
  · rename_i b h1 e1
    cases e
    refine ⟨ρ, τ, h, _, _, G, e1, ⟨fun ρ1 H1 v ev hr r => ?_⟩⟩
    cases r
    exact ⟨_, rfl, to.to ρ1 H1 _ ev hr rfl⟩
  · cases e
def mCall (b : List T → VH → Res (List T)) (g : MA) : MA := fun τ h => match g τ h with
  | .ok ts h1 => b ts h1
  | .bad => .bad
/-- a new list laid -/
theorem lay {ρ : Rh} {H : Hp} {h : VH} {us : List T} {ws : List V} {Q : VK} (hr : HR Y ρ H h) (rs : Rps Y ρ H us ws) (hz : ws.length ≤ sizeLine)
    (to : ∀ ρ' H' D ws, Ev ρ H ρ' H' → HR Y ρ' H' h → H D = none → LstAt Y ρ' H' D ws → Rps Y ρ' H' us ws → HR Y (ρ'.push D) H' (h ++ [.lst us]) → Q (.ref D) H') : ∀ p, H p = none → Q (.ref p) (upd H p (.lst ws)) := fun p hp => by
  obtain ⟨n1, n2, n3, n4⟩ := newL hr rs hz hp
  exact to ρ _ p ws (Ev.new hp) n1 hp n2 n3 n4
def fLen (ts : List T) (h : VH) : Res T := match ts with
  | [.str z] => .ok (.int z.length) h
  | [t] => (match seqOf h t with
    | some us => .ok (.int us.length) h
    | none => .bad)
  | _ => .bad
theorem rps_one {ρ : Rh} {H : Hp} {t : T} {vs : List V} (r : Rps Y ρ H [t] vs) : ∃ v, vs = [v] ∧ Rp Y ρ H t v := by
  cases r with
  | cons a b => cases b; exact ⟨_, rfl, a⟩
theorem rps_two {ρ : Rh} {H : Hp} {t u : T} {vs : List V} (r : Rps Y ρ H [t, u] vs) : ∃ v w, vs = [v, w] ∧ Rp Y ρ H t v ∧ Rp Y ρ H u w := by
  cases r with
  | cons a b => obtain ⟨w, rfl, r⟩ := rps_one b; exact ⟨_, _, rfl, a, r⟩
def rLen (K : PySem.W.Frag) : List V → Hp → VK → Prop := fun xs H Q => ∃ x n, xs = [x] ∧ LenV K x H n ∧ Q (.int n) H
theorem ct_len : CT Y (rLen Y.K) fLen := fun ρ H ts vs h t h' Q r hr e to => by
  unfold fLen at e
  split at e
  · cases e
    obtain ⟨v, rfl, rv⟩ := rps_one r
    cases rv with
    | str hz => exact ⟨_, _, rfl, ⟨by rw [sizeLine_eq]; omega, rfl⟩, to.to ρ H _ .refl hr (.int _)⟩
  · split at e
    · rename_i us e1
      cases e
      obtain ⟨v, rfl, rv⟩ := rps_one r
      obtain ⟨a, ws, rfl, hs, hz, rs⟩ := seqOf_ok rv hr e1
      refine ⟨_, us.length, rfl, ?_, to.to ρ H _ .refl hr (.int _)⟩
      rw [← rs.length]
      exact hs.elim (fun z => .inl ⟨ws, z, rfl⟩) fun z => .inr ⟨ws, z, rfl⟩
    · cases e
  · cases e
/-- list(xs) -/
def fList (ts : List T) (h : VH) : Res (List T) := match ts with
  | [t] => (match seqOf h t with
    | some us => .ok us h
    | none => .bad)
  | _ => .bad
/-- tuple(xs) -/
def fTuple (ts : List T) (h : VH) : Res T := match ts with
  | [t] => (match seqOf h t with
    | some us => .ok (.tup us) h
    | none => .bad)
  | _ => .bad
def intsOf : List T → Option (List Int)
  | [] => some []
  | .int i :: r => (intsOf r).map (i :: ·)
  | _ => none
def blsOf : List T → Option (List Bool)
  | [] => some []
  | .bl i :: r => (blsOf r).map (i :: ·)
  | _ => none
theorem blsOf_ok {ρ : Rh} {H : Hp} : ∀ {ts : List T} {vs : List V} {ns : List Bool}, Rps Y ρ H ts vs → blsOf ts = some ns → vs = ns.map V.bl
  | [], _, ns, r, e => by cases r; cases e; rfl
  | t :: ts, _, ns, r, e => by
    cases r with
    | cons a b =>
      cases t with
      | bl i =>
        simp only [blsOf, Option.map_eq_some_iff] at e
        obtain ⟨ms, e1, rfl⟩ := e
        cases a
        rw [blsOf_ok b e1]; rfl
      | _ => cases e
/-- a function of a list of ints -/
def fInts (g : List Int → Option Int) (ts : List T) (h : VH) : Res T := match ts with
  | [t] => (match listOf h t with
    | some us => (match intsOf us with
      | some ns => (match g ns with
        | some m => .ok (.int m) h
        | none => .bad)
      | none => .bad)
    | none => .bad)
  | _ => .bad
def maxI : List Int → Option Int
  | [] => none
  | x :: r => some (r.foldl max x)
def fMax := fInts maxI
theorem foldl_max_spec : ∀ (r : List Int) (x : Int), (∀ y, y ∈ x :: r → y ≤ r.foldl max x) ∧ r.foldl max x ∈ x :: r
  | [], x => ⟨fun y h => by simp at h; simp [h], by simp⟩
  | z :: r, x => by
    obtain ⟨h1, h2⟩ := foldl_max_spec r (max x z)
    refine ⟨fun y hy => ?_, ?_⟩
    · rw [List.foldl_cons]
      rcases List.mem_cons.mp hy with e | hy
      · have := h1 (max x z) List.mem_cons_self; omega
      · rcases List.mem_cons.mp hy with e | hy
        · have := h1 (max x z) List.mem_cons_self; omega
        · exact h1 y (List.mem_cons_of_mem _ hy)
    · rw [List.foldl_cons]
      rcases List.mem_cons.mp h2 with e | e
      · rw [e]
        rcases Int.le_total x z with c | c
        · rw [Int.max_eq_right c]; simp
        · rw [Int.max_eq_left c]; simp
      · exact List.mem_cons_of_mem _ (List.mem_cons_of_mem _ e)
def fBls (g : List Bool → Bool) (ts : List T) (h : VH) : Res T := match ts with
  | [t] => (match listOf h t with
    | some us => (match blsOf us with
      | some ns => .ok (.bl (g ns)) h
      | none => .bad)
    | none => .bad)
  | _ => .bad
def fAll := fBls fun bs => bs.all id
def rBls (K : PySem.W.Frag) (g : List Bool → Bool) : List V → Hp → VK → Prop := fun vs H Q => ∃ (a : Addr) (bs : List Bool), vs = [V.ref a] ∧ SqL K H a (bs.map V.bl) ∧ Q (.bl (g bs)) H
theorem ct_bls (g : List Bool → Bool) : CT Y (rBls Y.K g) (fBls g) := fun ρ H ts vs h t h' Q r hr e to => by
  unfold fBls at e
  split at e
  · split at e
    · rename_i us e1
      split at e
      · rename_i ns e2
        cases e
        obtain ⟨v, rfl, rv⟩ := rps_one r
        obtain ⟨a, ws, rfl, hs, hz, rs⟩ := listOf_ok rv hr e1
        rw [blsOf_ok rs e2] at hs
        exact ⟨a, ns, rfl, hs, to.to ρ H _ .refl hr (.bl _)⟩
      · cases e
    · cases e
  · cases e
theorem ct_all : CT Y (rAll Y.K) fAll := ct_bls _
def fAbs (ts : List T) (h : VH) : Res T := match ts with
  | [.int i] => .ok (.int (if i < 0 then -i else i)) h
  | _ => .bad
theorem ct_abs : CT Y (fun xs H Q => ∃ i, xs = [V.int i] ∧ Q (.int (if i < 0 then -i else i)) H) fAbs := fun ρ H ts vs h t h' Q r hr e to => by
  unfold fAbs at e
  split at e
  · cases e
    obtain ⟨v, rfl, rv⟩ := rps_one r
    cases rv
    exact ⟨_, rfl, to.to ρ H _ .refl hr (.int _)⟩
  · cases e
/-- int(x) -/
def fInt (ts : List T) (h : VH) : Res T := match ts with
  | [.int i] => .ok (.int i) h
  | [.bl b] => .ok (.int (if b = true then 1 else 0)) h
  | [.str a] => (match intText? a with
    | some n => if a.length ≤ 640 then .ok (.int n) h else .bad
    | none => .bad)
  | _ => .bad
def rInt1 : List V → Hp → VK → Prop := fun xs H Q => (∃ i, xs = [V.int i] ∧ Q (.int i) H) ∨ ∃ k, xs = [V.bl k] ∧ Q (.int (if k = true then 1 else 0)) H
def rIntS : List V → Hp → VK → Prop := fun xs H Q => ∃ a n, xs = [V.str a] ∧ intText? a = some n ∧ a.length ≤ 640 ∧ Q (.int n) H
def rInt : List V → Hp → VK → Prop := fun xs H Q => rInt1 xs H Q ∨ rIntS xs H Q
theorem oInt : CallR X (.type "int") rInt := CallR.or (r := rInt1) (r' := rIntS) call_int1 call_int_str
theorem ct_int : CT Y rInt fInt := fun ρ H ts vs h t h' Q r hr e to => by
  unfold fInt at e
  split at e
  · cases e
    obtain ⟨v, rfl, rv⟩ := rps_one r
    cases rv
    exact .inl (.inl ⟨_, rfl, to.to ρ H _ .refl hr (.int _)⟩)
  · cases e
    obtain ⟨v, rfl, rv⟩ := rps_one r
    cases rv
    exact .inl (.inr ⟨_, rfl, to.to ρ H _ .refl hr (.int _)⟩)
  · split at e
    · rename_i n en
      split at e
      · rename_i hz
        cases e
        obtain ⟨v, rfl, rv⟩ := rps_one r
        cases rv
        exact .inr ⟨_, n, rfl, en, hz, to.to ρ H _ .refl hr (.int _)⟩
      · cases e
    · cases e
  · cases e
/-- str(x) -/
def fStr (ts : List T) (h : VH) : Res T := match ts with
  | [.int i] => if i.natAbs.log2 < 1920 ∧ (Str.ofString (toString i)).length ≤ 1000000 then .ok (.str (Str.ofString (toString i))) h else .bad
  | _ => .bad
theorem ct_str : CT Y (fun xs H Q => ∃ i, xs = [V.int i] ∧ i.natAbs.log2 < 1920 ∧ Q (.str (Str.ofString (toString i))) H) fStr := fun ρ H ts vs h t h' Q r hr e to => by
  unfold fStr at e
  split at e
  · split at e
    · rename_i hz
      cases e
      obtain ⟨v, rfl, rv⟩ := rps_one r
      cases rv
      exact ⟨_, rfl, hz.1, to.to ρ H _ .refl hr (.str hz.2)⟩
    · cases e
  · cases e
def fII (g : Int → Int → Int) (ts : List T) (h : VH) : Res T := match ts with
  | [.int i, .int j] => .ok (.int (g i j)) h
  | _ => .bad
def fMax2 := fII fun i j => if j > i then j else i
def fMin2 := fII fun i j => if j < i then j else i
theorem ct_II (g : Int → Int → Int) : CT Y (fun xs H Q => ∃ i j, xs = [V.int i, V.int j] ∧ Q (.int (g i j)) H) (fII g) := fun ρ H ts vs h t h' Q r hr e to => by
  unfold fII at e
  split at e
  · cases e
    obtain ⟨v, w, rfl, rv, rw'⟩ := rps_two r
    cases rv
    cases rw'
    exact ⟨_, _, rfl, to.to ρ H _ .refl hr (.int _)⟩
  · cases e
theorem ct_max2 : CT Y (fun xs H Q => ∃ i j, xs = [V.int i, V.int j] ∧ Q (.int (if j > i then j else i)) H) fMax2 := ct_II _
theorem ct_min2 : CT Y (fun xs H Q => ∃ i j, xs = [V.int i, V.int j] ∧ Q (.int (if j < i then j else i)) H) fMin2 := ct_II _
def fDivmod (ts : List T) (h : VH) : Res T := match ts with
  | [.int i, .int j] => if 0 < j ∧ Builtin.divisionGoesByPylong i j = false then .ok (.tup [.int (i / j), .int (i % j)]) h else .bad
  | _ => .bad
theorem ct_divmod : CT Y (fun xs H Q => ∃ i j, xs = [V.int i, V.int j] ∧ CDivP i j ∧ ∀ p, H p = none → Q (.ref p) (upd H p (.tup [.int (i / j), .int (i % j)]))) fDivmod := fun ρ H ts vs h t h' Q r hr e to => by
  unfold fDivmod at e
  split at e
  · split at e
    · rename_i hz
      cases e
      obtain ⟨v, w, rfl, rv, rw'⟩ := rps_two r
      cases rv
      cases rw'
      refine ⟨_, _, rfl, hz, fun p hp => ?_⟩
      obtain ⟨n1, n2⟩ := newT (vs := [.int _, .int _]) hr (.cons (.int _) (.cons (.int _) .nil)) (by rw [sizeLine_eq]; exact Nat.le_of_ble_eq_true rfl) hp
      exact to.to ρ _ _ (Ev.new hp) n1 n2
    · cases e
  · cases e
end
end TL
set_option Elab.async false
set_option linter.all false
set_option maxRecDepth 100000
set_option maxHeartbeats 4000000
namespace TL
open PySem PySem.Spec L2
section
variable {X : Cx} {Y : Wd}
theorem wk_list {v : V} {t : T} {ρ : Rh} {H : Hp} {a : Addr} (r : Rp Y ρ H t (.ref a)) : Wk Y (Itl Y.K a) (fun h => listOf h t) ρ H := by
  refine ⟨fun ρ1 H1 h ts i u ev hr e ei => ?_, fun ρ1 H1 h ts i ev hr e hl => ?_⟩
  · obtain ⟨b, vs, eb, hs, hz, rs⟩ := listOf_ok (r.ev ev) hr e
    cases eb
    obtain ⟨w, ew, rw'⟩ := rs.get ei
    refine ⟨⟨vs, w, hs, ew⟩, fun x H' y => ?_⟩
    obtain ⟨rfl, hx⟩ := y
    have e2 := hx vs hs
    rw [ew] at e2
    cases e2
    exact ⟨.refl, hr, rw'⟩
  · obtain ⟨b, vs, eb, hs, hz, rs⟩ := listOf_ok (r.ev ev) hr e
    cases eb
    exact ⟨vs, hs, by rw [rs.length]; exact hl⟩
theorem wk_tup {t : T} {ρ : Rh} {H : Hp} {a : Addr} (r : Rp Y ρ H t (.ref a)) : Wk Y (Itt Y.K a) (fun _ => tupOf t) ρ H := by
  refine ⟨fun ρ1 H1 h ts i u ev hr e ei => ?_, fun ρ1 H1 h ts i ev hr e hl => ?_⟩
  · obtain ⟨b, vs, eb, hs, hz, rs⟩ := tupOf_ok (r.ev ev) e
    cases eb
    obtain ⟨w, ew, rw'⟩ := rs.get ei
    refine ⟨⟨vs, w, hs, ew⟩, fun x H' y => ?_⟩
    obtain ⟨rfl, hx⟩ := y
    have e2 := hx vs hs
    rw [ew] at e2
    cases e2
    exact ⟨.refl, hr, rw'⟩
  · obtain ⟨b, vs, eb, hs, hz, rs⟩ := tupOf_ok (r.ev ev) e
    cases eb
    exact ⟨vs, hs, by rw [rs.length]; exact hl⟩
/-- a text's signs -/
def signsT (x : Str) : List T := x.cps.toList.map fun c => .str ⟨#[c]⟩
theorem wk_str {x : Str} {ρ : Rh} {H : Hp} : Wk Y (Its x) (fun _ => some (signsT x)) ρ H := by
  refine ⟨fun ρ1 H1 h ts i u ev hr e ei => ?_, fun ρ1 H1 h ts i ev hr e hl => ?_⟩
  · cases e
    unfold signsT at ei
    rw [List.getElem?_map] at ei
    cases q : x.cps.toList[i]? with
    | none => rw [q] at ei; cases ei
    | some c =>
      rw [q] at ei
      cases ei
      rw [Array.getElem?_toList] at q
      refine ⟨(Array.getElem?_eq_some_iff.mp q).1, fun v H' y => ?_⟩
      obtain ⟨rfl, c', hc, rfl⟩ := y
      rw [q] at hc
      cases hc
      exact ⟨.refl, hr, .str (by show (#[_] : Array Nat).size ≤ _; simp)⟩
  · cases e
    show x.cps.size ≤ i
    unfold signsT at hl
    simpa using hl
def seqS (h : VH) : T → Option (List T)
  | .str x => some (signsT x)
  | .arg _ => none
  | t => seqOf h t
theorem wk_at {J : It} {rd rd' : VH → Option (List T)} {ρ : Rh} {H : Hp} (w : Wk Y J rd ρ H) (e : ∀ h, rd' h = rd h) : Wk Y J rd' ρ H :=
  ⟨fun ρ1 H1 h ts i u ev hr q => w.go ρ1 H1 h ts i u ev hr (by rw [← e]; exact q), fun ρ1 H1 h ts i ev hr q => w.stop ρ1 H1 h ts i ev hr (by rw [← e]; exact q)⟩
/-- only what can be walked -/
def walkable (h : VH) (t : T) : Bool := (seqS h t).isSome
def iSeqC (f : ME) : MI := fun τ h => match f τ h with
  | .ok t h1 => if walkable h1 t = true then .ok (fun h => seqS h t) h1 else .bad
  | .bad => .bad
/-- which of the library's three walks it is, the value's form tells -/
theorem xiSeq {tg e : Expr} {f : ME} (hK : X.K = Y.K) (he : PE X e (TM Y f)) : PI X tg e (TMI Y (iSeqC f)) := by
  constructor
  intro pins s σ H R I q
  obtain ⟨ρ, τ, h, rd, h', G, e, to⟩ := q
  unfold iSeqC at e
  cases e1 : f τ h with
  | bad => rw [e1] at e; cases e
  | ok t h1 =>
    rw [e1] at e
    by_cases hw : walkable h1 t = true
    case neg => simp only [hw] at e; cases e
    simp only [hw, if_true] at e
    cases e
    have asList : (∀ ρ1 H1 v, Ev ρ H ρ1 H1 → HR Y ρ1 H1 h' → Rp Y ρ1 H1 t v → ∃ a, v = .ref a ∧ (∃ xs, SqL X.K H1 a xs) ∧ R (Itl X.K a) H1) → wpAny (model X.prog X.w) X.A (eval _ X.env) (fun v s1 => wpAny (model X.prog X.w) X.A (pyIter v) (PIE X pins σ tg R) X.xe s1) X.xe s :=
      fun k => (pi_list he).run pins s σ H R I ⟨ρ, τ, h, t, _, G, e1, ⟨fun ρ1 H1 v ev hr r => k ρ1 H1 v ev hr r⟩⟩
    cases t with
    | str z => exact (pi_str he).run pins s σ H R I ⟨ρ, τ, h, _, _, G, e1, ⟨fun ρ1 H1 v ev hr r => by cases r; exact ⟨_, rfl, to ρ1 H1 _ ev hr wk_str⟩⟩⟩
    | tup ts =>
      refine (pi_tup he).run pins s σ H R I ⟨ρ, τ, h, _, _, G, e1, ⟨fun ρ1 H1 v ev hr r => ?_⟩⟩
      rw [hK]
      cases r with
      | tup ta rs => exact ⟨_, rfl, ⟨_, ta.sq⟩, to ρ1 H1 _ ev hr (wk_at (wk_tup (.tup ta rs)) fun _ => rfl)⟩
    | lst ts =>
      refine asList fun ρ1 H1 v ev hr r => ?_
      rw [hK]
      cases r with
      | lst la rs => exact ⟨_, rfl, ⟨_, la.sq⟩, to ρ1 H1 _ ev hr (wk_at (wk_list (v := .non) (.lst la rs)) fun _ => rfl)⟩
    | ref n =>
      refine asList fun ρ1 H1 v ev hr r => ?_
      rw [hK]
      obtain ⟨ts, ets⟩ := Option.isSome_iff_exists.mp (show (seqS h' (.ref n)).isSome = true from hw)
      obtain ⟨b, vs, eb, hs, hz, rs⟩ := listOf_ok r hr (show listOf _ _ = some ts from ets)
      subst eb
      exact ⟨_, rfl, ⟨_, hs⟩, to ρ1 H1 _ ev hr (wk_at (wk_list (v := .non) r) fun _ => rfl)⟩
    | _ => cases hw
/-- lo, lo + 1, .. -/
def rangeT (lo : Int) (n : Nat) : List T := (List.range n).map fun (i : Nat) => T.int (lo + i)
theorem wk_range {lo : Int} {n : Nat} {ρ : Rh} {H : Hp} : Wk Y (Itr lo n) (fun _ => some (rangeT lo n)) ρ H := by
  refine ⟨fun ρ1 H1 h ts i u ev hr e ei => ?_, fun ρ1 H1 h ts i ev hr e hl => ?_⟩
  · cases e
    unfold rangeT at ei
    rw [List.getElem?_map] at ei
    have hi : i < n := by
      by_cases c : i < n
      · exact c
      · rw [List.getElem?_eq_none (by simp; omega)] at ei; cases ei
    rw [List.getElem?_range hi] at ei
    cases ei
    refine ⟨hi, fun v H' y => ?_⟩
    obtain ⟨rfl, rfl⟩ := y
    exact ⟨.refl, hr, .int _⟩
  · cases e
    unfold rangeT at hl
    show n ≤ i
    simpa using hl
def iRange1 (g : MA) : MI := fun τ h => match g τ h with
  | .ok [.int j] h1 => if -1000000000 ≤ j ∧ j ≤ 1000000000 then .ok (fun _ => some (rangeT 0 j.toNat)) h1 else .bad
  | _ => .bad
theorem xiRange1 {tg a : Expr} {g : MA} {p pos : Pos} (hg : Gl X "range") (hm : X.mg "range" = none) (ha : PA X [a] (TMA Y g)) (hs : starEach [a] X.env = [(false, eval a X.env)] := by rfl) : PI X tg (.Call (.Name "range" p) [a] [] pos) (TMI Y (iRange1 g)) :=
  pi_imp (pi_range1 hg hm ha hs) fun σ H R q => by
    obtain ⟨ρ, τ, h, rd, h', G, e, to⟩ := q
    unfold iRange1 at e
    split at e
    · rename_i j h1 e1
      split at e
      · rename_i hz
        cases e
        refine ⟨ρ, τ, h, _, _, G, e1, ⟨fun ρ1 H1 vs ev hr r => ?_⟩⟩
        obtain ⟨v, rfl, rv⟩ := rps_one r
        cases rv
        exact ⟨j, rfl, by omega, by omega, to ρ1 H1 _ ev hr wk_range⟩
      · cases e
    · cases e
/-- pairs with their number -/
def enumT (ts : List T) : List T := ts.mapIdx fun i t => .tup [.int (i : Nat), t]
theorem pair_new {ρ : Rh} {H : Hp} {h : VH} {p : Addr} {x y : V} {t u : T} (hr : HR Y ρ H h) (r1 : Rp Y ρ H t x) (r2 : Rp Y ρ H u y) (hp : H p = none) : Ev ρ H ρ (upd H p (.tup [x, y])) ∧ HR Y ρ (upd H p (.tup [x, y])) h ∧ Rp Y ρ (upd H p (.tup [x, y])) (.tup [t, u]) (.ref p) := by
  obtain ⟨n1, n2⟩ := newT (vs := [x, y]) hr (.cons r1 (.cons r2 .nil)) (by rw [sizeLine_eq]; exact Nat.le_of_ble_eq_true rfl) hp
  exact ⟨Ev.new hp, n1, n2⟩
theorem wk_enum {t : T} {ρ : Rh} {H : Hp} {a : Addr} (r : Rp Y ρ H t (.ref a)) : Wk Y (Ite Y.K a) (fun h => (listOf h t).map enumT) ρ H := by
  refine ⟨fun ρ1 H1 h ts i u ev hr e ei => ?_, fun ρ1 H1 h ts i ev hr e hl => ?_⟩
  · rw [Option.map_eq_some_iff] at e
    obtain ⟨us, e, rfl⟩ := e
    obtain ⟨b, vs, eb, hs, hz, rs⟩ := listOf_ok (r.ev ev) hr e
    cases eb
    unfold enumT at ei
    rw [List.getElem?_mapIdx] at ei
    cases q : us[i]? with
    | none => rw [q] at ei; cases ei
    | some z =>
      rw [q] at ei
      cases ei
      obtain ⟨w, ew, rw'⟩ := rs.get q
      refine ⟨⟨vs, w, hs, ew⟩, fun x H' y => ?_⟩
      obtain ⟨p, x', rfl, hp, rfl, hx⟩ := y
      have e2 := hx vs hs
      rw [ew] at e2
      cases e2
      exact pair_new hr (.int _) rw' hp
  · rw [Option.map_eq_some_iff] at e
    obtain ⟨us, e, rfl⟩ := e
    obtain ⟨b, vs, eb, hs, hz, rs⟩ := listOf_ok (r.ev ev) hr e
    cases eb
    refine ⟨vs, hs, ?_⟩
    rw [rs.length]
    unfold enumT at hl
    simpa using hl
def iEnumM (g : MA) : MI := fun τ h => match g τ h with
  | .ok [t] h1 => if (listOf h1 t).isSome = true then .ok (fun h => (listOf h t).map enumT) h1 else .bad
  | _ => .bad
theorem xiEnum {e : Expr} {g : MA} {p pos tpos : Pos} {elts : List Expr} {kk : Nat} (hK : X.K = Y.K) (hg : Gl X "enumerate") (hm : X.mg "enumerate" = none) (ha : PA X [e] (TMA Y g)) (hs : starEach [e] X.env = [(false, eval e X.env)] := by rfl) :
    PI X (.Tuple elts kk tpos) (.Call (.Name "enumerate" p) [e] [] pos) (TMI Y (iEnumM g)) := pi_imp (pi_enum hg hm ha hs) fun σ H R q => by
  obtain ⟨ρ, τ, h, rd, h', G, e, to⟩ := q
  unfold iEnumM at e
  split at e
  · rename_i t h1 e1
    split at e
    · rename_i hz
      cases e
      refine ⟨ρ, τ, h, _, _, G, e1, ⟨fun ρ1 H1 vs ev hr r => ?_⟩⟩
      obtain ⟨v, rfl, rv⟩ := rps_one r
      obtain ⟨ts, ets⟩ := Option.isSome_iff_exists.mp hz
      obtain ⟨b, vs, rfl, hs, hz, rs⟩ := listOf_ok rv hr ets
      rw [hK]
      exact ⟨b, vs, rfl, hs, to ρ1 H1 _ ev hr (wk_enum rv)⟩
    · cases e
  · cases e
/-- zip of two lists -/
def zipT (ts us : List T) : List T := List.zipWith (fun t u => T.tup [t, u]) ts us
def iZipM (g : MA) : MI := fun τ h => match g τ h with
  | .ok [t, u] h1 => if ((listOf h1 t).isSome && (listOf h1 u).isSome) = true then .ok (fun h => match listOf h t, listOf h u with | some ts, some us => some (zipT ts us) | _, _ => none) h1 else .bad
  | _ => .bad
def aStar (f : ME) (g : MA) : MA := fun τ h => match f τ h with
  | .ok t h1 => (match seqOf h1 t with
    | some ts => (match g τ h1 with
      | .ok us h2 => .ok (ts ++ us) h2
      | .bad => .bad)
    | none => .bad)
  | .bad => .bad
def eRev (f : ME) : ME := fun τ h => match f τ h with
  | .ok t h1 => (match listOf h1 t with
    | some ts => .ok (.lst ts.reverse) h1
    | none => .bad)
  | .bad => .bad
theorem xRev {e : Expr} {f : ME} {k : Nat} {p1 p2 p3 pos : Pos} (hK : X.K = Y.K) (he : PE X e (TM Y f)) : PE X (.Subscript e (.Slice none none (some (.UnaryOp .USub (.Constant (.int 1) k p1) p2)) p3) pos) (TM Y (eRev f)) := pe_imp (pe_revL he) fun σ H Q q => by
  obtain ⟨ρ, τ, h, u, h', G, e, to⟩ := q
  unfold eRev at e
  cases e1 : f τ h with
  | bad => simp only [e1] at e; cases e
  | ok t h1 =>
    simp only [e1] at e
    split at e
    · rename_i ts ets
      cases e
      refine ⟨ρ, τ, h, t, _, G, e1, ⟨fun ρ1 H1 v ev hr1 r => ?_⟩⟩
      obtain ⟨a, vs, rfl, hs, hz, rs⟩ := listOf_ok r hr1 ets
      rw [hK]
      refine ⟨a, vs, rfl, hs, fun p hp => ?_⟩
      obtain ⟨n1, n2⟩ := newL' hr1 rs.reverse (by rw [List.length_reverse]; exact hz) hp
      exact to.to ρ1 _ _ (ev.trans (Ev.new hp)) n1 n2
    · cases e
def sPar3 (i j l : Nat) (g : MA) : MS := fun τ h => match g τ h with
  | .ok [t, u, w] h1 => .nx (((τ.set i (some t)).set j (some u)).set l (some w)) h1
  | _ => .bad
theorem xsPar3 {i j l : Nat} {x y z : Str} {a b c : Expr} {g : MA} {px py pz pt pos : Pos} {kt k2 pt2} (hc : X.calm = true) (hN : X.N.Nodup) (hi : X.N[i]? = some x) (hj : X.N[j]? = some y) (hl : X.N[l]? = some z) (hij : i ≠ j) (hil : i ≠ l) (hjl : j ≠ l)
    (hx : X.env.scope.names.lookup x = some .local) (hy : X.env.scope.names.lookup y = some .local) (hz : X.env.scope.names.lookup z = some .local) (ha : PA X [a, b, c] (TMA Y g))
    (hw : swappedStores [.Tuple [.Name x px, .Name y py, .Name z pz] kt pt] (.Tuple [a, b, c] k2 pt2) X.env = pure (some [x, y, z]))
    (hs : swapsWithSole [.Tuple [.Name x px, .Name y py, .Name z pz] kt pt] (.Tuple [a, b, c] k2 pt2) pos.line X.env = pure false := by rfl) :
    PS X (.Assign [.Tuple [.Name x px, .Name y py, .Name z pz] kt pt] (.Tuple [a, b, c] k2 pt2) pos) (TMS Y (sPar3 i j l g)) := ps_imp (ps_par3 hc hN hi hj hl hij hil hjl hx hy hz ha hw hs) fun D σ H q => by
  obtain ⟨ρ, τ, h, G, to⟩ := q
  unfold sPar3 at to
  split at to
  · rename_i t u w h1 e1
    refine ⟨ρ, τ, h, [t, u, w], h1, G, e1, ⟨fun ρ1 H1 vs ev hr r => ?_⟩⟩
    cases r with
    | cons r1 r2 =>
      cases r2 with
      | cons r2 r3 =>
        cases r3 with
        | cons r3 r4 =>
          cases r4
          exact ⟨_, _, _, rfl, to ρ1 H1 _ ev hr ((((G.sl.ev ev.toEvR).set i r1).set j r2).set l r3)⟩
  · exact to.elim
end
end TL
set_option Elab.async false
set_option linter.all false
set_option maxRecDepth 100000
set_option maxHeartbeats 4000000
namespace TL
open PySem PySem.Spec L2
section
variable {X : Cx} {Y : Wd}
/-- the receiver is of the built-in type ty -/
def MT (Y : Wd) (ty : String) (r : V → List V → Hp → VK → Prop) (b : T → List T → VH → Res T) : Prop := ∀ ρ0 H0 h0 ρ H o ts vo vs h t h' Q, Rp Y ρ0 H0 o vo → HR Y ρ0 H0 h0 → Ev ρ0 H0 ρ H → Rps Y ρ H ts vs → HR Y ρ H h → b o ts h = .ok t h' → To Y (Rp Y) ρ H t h' Q → r vo vs H Q
def tyT (h : VH) (ty : String) : T → Bool
  | .str _ => ty == "str"
  | .lst _ => ty == "list"
  | .ref n => match h[n]? with
    | some (.lst _) => ty == "list"
    | some (.dct _) => ty == "dict"
    | some (.dcT _) => ty == "dict"
    | _ => false
  | _ => false
theorem tyT_ok {ρ : Rh} {H : Hp} {h : VH} {ty : String} {t : T} {v : V} (r : Rp Y ρ H t v) (hr : HR Y ρ H h) (e : tyT h ty t = true) : tyV Y.K ty v H := by
  cases r with
  | str hx => exact eq_of_beq e
  | lst la rs => exact .inl ⟨eq_of_beq e, _, la.sq⟩
  | @ref n a ha =>
    simp only [tyT] at e
    split at e
    · rename_i ts eo
      obtain ⟨vs, h1, hz, h2⟩ := hr.at_ n _ a eo ha
      exact .inl ⟨eq_of_beq e, vs, .inl (.inl h1)⟩
    · rename_i ts eo
      obtain ⟨vs, h1, h2⟩ := hr.at_ n _ a eo ha
      exact .inr (.inr (.inl ⟨eq_of_beq e, .inl ⟨vs, h1⟩⟩))
    · rename_i ts eo
      obtain ⟨vs, h1, h2⟩ := hr.at_ n _ a eo ha
      exact .inr (.inr (.inl ⟨eq_of_beq e, .inr ⟨vs, h1⟩⟩))
    · cases e
  | _ => cases e
def eMt (ty : String) (b : T → List T → VH → Res T) (f : ME) (g : MA) : ME := fun τ h => match f τ h with
  | .ok o h1 => if tyT h1 ty o = true then (match g τ h1 with
    | .ok ts h2 => b o ts h2
    | .bad => .bad) else .bad
  | .bad => .bad
theorem tm_mt {ty : String} {r : V → List V → Hp → VK → Prop} {b : T → List T → VH → Res T} (mt : MT Y ty r b) {f : ME} {g : MA} {σ : St} {H : Hp} {Q : VK} (q : TM Y (eMt ty b f g) σ H Q) : tBM Y.K ty r (TM Y f) (TMA Y g) σ H Q := by
  obtain ⟨ρ, τ, h, t, h', G, e, to⟩ := q
  unfold eMt at e
  cases e1 : f τ h with
  | bad => simp only [e1] at e; cases e
  | ok o h1 =>
    simp only [e1] at e
    split at e
    · rename_i hty
      refine ⟨ρ, τ, h, o, h1, G, e1, ⟨fun ρ1 H1 vo ev hr1 ro => ⟨tyT_ok ro hr1 hty, ?_⟩⟩⟩
      cases e2 : g τ h1 with
      | bad => simp only [e2] at e; cases e
      | ok ts h2 =>
        simp only [e2] at e
        exact ⟨ρ1, τ, h1, ts, h2, G.ev ev hr1, e2, ⟨fun ρ2 H2 vs ev2 hr2 rs => mt ρ1 H1 h1 ρ2 H2 o ts vo vs h2 t h' Q ro hr1 ev2 rs hr2 e (to.ev (ev.trans ev2))⟩⟩
    · cases e
theorem xMt {o e : Expr} {es : List Expr} {f : ME} {g : MA} {name : Str} {apos cpos : Pos} {ty id : String} {r : V → List V → Hp → VK → Prop} {b : T → List T → VH → Res T} (mt : MT Y ty r b) (hK : X.K = Y.K) (pa : PlainAttrs ty) (slot : Slot ty name id) (hty : typeOf (.builtin id) = pure (.type "method_descriptor")) (hm : MtR X id r) (ho : PE X o (TM Y f)) (ha : PA X (e :: es) (TMA Y g))
    (hbase : attributeBase o name X.env (eval o X.env) = eval o X.env := by rfl)
    (hfew : ((backTo cpos (starEach (e :: es) X.env)).all (fun x => !x.1) && (backToKw cpos (keywordEach [] X.env)).all (fun x => x.1.isSome)
      && decide ((e :: es).length + ([] : List Keyword).length + (if ([] : List Keyword).isEmpty then 0 else 1) < 30)) = true := by rfl)
    (hline : (apos.endLine == cpos.line) = true := by rfl) (hs : starEach (e :: es) X.env = (false, eval e X.env) :: starEach es X.env := by rfl) (hplain : (backTo cpos (starEach es X.env)).any (·.1) = false := by rfl) :
    PE X (.Call (.Attribute o name apos) (e :: es) [] cpos) (TM Y (eMt ty b f g)) := pe_imp (pe_bm pa slot hty hm ho ha hbase hfew hline hs hplain) fun σ H Q q => by rw [hK]; exact tm_mt mt q
/-- xs.append(y) -/
def mAppend (o : T) (ts : List T) (h : VH) : Res T := match o, ts with
  | .ref n, [y] => (match h[n]? with
    | some (.lst xs) => if xs.length < 16777216 then .ok .non (h.set n (.lst (xs ++ [y]))) else .bad
    | _ => .bad)
  | _, _ => .bad
theorem mt_append' : MT Y "list" rAppend mAppend := fun ρ0 H0 h0 ρ H o ts vo vs h t h' Q ro hr0 ev r hr e to => by
  unfold mAppend at e
  split at e
  · rename_i n y
    split at e
    · rename_i xs eo
      split at e
      · rename_i hz
        cases e
        obtain ⟨v, rfl, rv⟩ := rps_one r
        cases ro with
        | @ref _ a ha =>
          have ha' := ev.toEvR.get ha
          obtain ⟨ws, h1, hz1, rs⟩ := hr.at_ n _ a eo ha'
          have hl := rs.length
          have mem := List.mem_of_getElem? ha'
          have e1 : Ev ρ H ρ (upd H a (.lst (ws ++ [v]))) := Ev.write mem (by rw [h1]; exact fun _ _ z => nomatch z)
          refine ⟨a, ws, v, rfl, rfl, h1, by rw [hl, sizeLine_eq]; exact hz, to.to ρ _ _ e1 (hr.write ha' (by rw [h1]; exact fun _ _ z => nomatch z) ⟨_, upd_same, ?_, (rs.snoc rv).ev e1.toEvR⟩) .non⟩
          rw [List.length_append, hl, sizeLine_eq]
          simp; omega
      · cases e
    · cases e
  · cases e
/-- x.split(sep): a new list -/
theorem strs_rps {ρ : Rh} {H : Hp} : ∀ {xs : List Str}, (∀ x ∈ xs, x.length ≤ 1000000) → Rps Y ρ H (xs.map T.str) (xs.map V.str)
  | [], _ => .nil
  | x :: xs, h => .cons (.str (h x List.mem_cons_self)) (strs_rps fun y hy => h y (List.mem_cons_of_mem _ hy))
def strsOf : List T → Option (List Str)
  | [] => some []
  | .str i :: r => (strsOf r).map (i :: ·)
  | _ => none
theorem strsOf_ok {ρ : Rh} {H : Hp} : ∀ {ts : List T} {vs : List V} {ns : List Str}, Rps Y ρ H ts vs → strsOf ts = some ns → vs = ns.map V.str
  | [], _, ns, r, e => by cases r; cases e; rfl
  | t :: ts, _, ns, r, e => by
    cases r with
    | cons a b =>
      cases t with
      | str i =>
        simp only [strsOf, Option.map_eq_some_iff] at e
        obtain ⟨ms, e1, rfl⟩ := e
        cases a
        rw [strsOf_ok b e1]; rfl
      | _ => cases e
def rSplit : V → List V → Hp → VK → Prop := fun x xs H Q => ∃ a b, x = .str a ∧ xs = [.str b] ∧ (b.length == 0) = false ∧ a.length + 2 ≤ sizeLine ∧ rNewStrs (Txt.split a b) H Q
def shortAll (xs : List Str) : Bool := xs.all fun x => decide (x.length ≤ 1000000)
def mSplit (o : T) (ts : List T) (h : VH) : Res T := match o, ts with
  | .str a, [.str b] => if ((b.length == 0) = false ∧ (Txt.split a b).length ≤ 16777216) ∧ shortAll (Txt.split a b) = true then .ok (.lst ((Txt.split a b).map T.str)) h else .bad
  | _, _ => .bad
theorem mt_split' : MT Y "str" rSplit mSplit := fun ρ0 H0 h0 ρ H o ts vo vs h t h' Q ro hr0 ev r hr e to => by
  unfold mSplit at e
  split at e
  · rename_i a b
    split at e
    · rename_i hz
      cases e
      obtain ⟨v, rfl, rv⟩ := rps_one r
      cases rv
      cases ro with
      | str hx =>
        refine ⟨a, b, rfl, rfl, hz.1.1, by rw [sizeLine_eq]; omega, fun p hp => ?_⟩
        obtain ⟨n1, n2⟩ := newL' hr (strs_rps fun x hx => of_decide_eq_true (List.all_eq_true.mp hz.2 x hx)) (by rw [List.length_map, sizeLine_eq]; exact hz.1.2) hp
        exact to.to ρ _ _ (Ev.new hp) n1 n2
    · cases e
  · cases e
/-- sep.join(texts) -/
def rJoin (K : PySem.W.Frag) : V → List V → Hp → VK → Prop := fun x xs H Q => ∃ a p, ∃ ys : List Str, x = .str a ∧ xs = [.ref p] ∧ (SqL K H p (ys.map V.str) ∨ SqT K H p (ys.map V.str)) ∧
    (ys.map (·.length)).sum + ys.length * a.length ≤ 16777216 ∧ Q (.str (Txt.join a ys)) H
def mJoin (o : T) (ts : List T) (h : VH) : Res T := match o, ts with
  | .str a, [t] => (match seqOf h t with
    | some us => (match strsOf us with
      | some ys => if (ys.map (·.length)).sum + ys.length * a.length ≤ 1000000 then .ok (.str (Txt.join a ys)) h else .bad
      | none => .bad)
    | none => .bad)
  | _, _ => .bad
theorem mt_join' : MT Y "str" (rJoin Y.K) mJoin := fun ρ0 H0 h0 ρ H o ts vo vs h t h' Q ro hr0 ev r hr e to => by
  unfold mJoin at e
  split at e
  · rename_i a t
    split at e
    · rename_i us e1
      split at e
      · rename_i ys e2
        split at e
        · rename_i hz
          cases e
          obtain ⟨v, rfl, rv⟩ := rps_one r
          obtain ⟨p, ws, rfl, hs, hz1, rs⟩ := seqOf_ok rv hr e1
          rw [strsOf_ok rs e2] at hs
          cases ro with
          | str hx =>
            refine ⟨a, p, ys, rfl, rfl, hs, by omega, to.to ρ H _ .refl hr (.str ?_)⟩
            unfold Txt.join
            rw [StrLaws.glued_eq_join]
            exact Nat.le_trans (StrLaws.join_length_le a ys) hz
        · cases e
      · cases e
    · cases e
  · cases e
/-- xs[i] = v -/
def bSetL (o i t : T) (h : VH) : Res Unit := match o, i with
  | .ref n, .int k => (match h[n]? with
    | some (.lst xs) => (match ixN xs.length k with
      | some j => .ok () (h.set n (.lst (xs.set j t)))
      | none => .bad)
    | _ => .bad)
  | _, _ => .bad
theorem st_setL : ST Y rSetL bSetL := fun ρ H o i t vo vi v h h' Q ro ri rt hr e to => by
  unfold bSetL at e
  split at e
  · rename_i n k
    split at e
    · rename_i xs eo
      split at e
      · rename_i j ej
        cases e
        cases ri
        cases ro with
        | @ref _ a ha =>
          obtain ⟨ws, h1, hz1, rs⟩ := hr.at_ n _ a eo ha
          have e1 : Ev ρ H ρ (upd H a (.lst (ws.set j v))) := Ev.write (List.mem_of_getElem? ha) (by rw [h1]; exact fun _ _ z => nomatch z)
          exact ⟨a, ws, k, j, rfl, rfl, h1, by rw [rs.length]; exact ej, to ρ _ e1 (hr.write ha (by rw [h1]; exact fun _ _ z => nomatch z) ⟨_, upd_same, by rw [List.length_set]; exact hz1, (rs.set rt j).ev e1.toEvR⟩)⟩
      · cases e
    · cases e
  · cases e
theorem xGlob {x : Str} {v : V} {u : Value} {t : T} {pos : Pos} (hg : Gl X x) (hm : X.mg x = some u) (r : RelV v u) (rp : ∀ ρ H, Rp Y ρ H t v) (hd : (x == ("__debug__" : Str)) = false := by decide) : PE X (.Name x pos) (TM Y (eK t)) :=
  pe_imp (pe_glob hg hm r hd) fun σ H Q q => tm_k rp σ H Q q
def getI (h : VH) : T → Option (Nat × List T)
  | .obj c fs => some (c, fs)
  | .ref n => match h[n]? with
    | some (.ins c fs) => some (c, fs)
    | _ => none
  | _ => none
theorem getI_ok {ρ : Rh} {H : Hp} {h : VH} {t : T} {v : V} {c : Nat} {fs : List T} (r : Rp Y ρ H t v) (hr : HR Y ρ H h) (e : getI h t = some (c, fs)) : ∃ a C dx vfs, v = .ref a ∧ Y.cm c = some C ∧ H a = some (.ins C dx vfs) ∧ vfs.map (·.1) = (Y.fn c).take fs.length ∧ Rps Y ρ H fs (vfs.map (·.2)) := by
  cases r with
  | obj hc ho hh hn rs => cases e; exact ⟨_, _, _, _, rfl, hc, hh, hn, rs⟩
  | @ref n a ha =>
    simp only [getI] at e
    split at e
    · rename_i c' fs' eo
      cases e
      obtain ⟨C, dx, vfs, hc, h1, hn, rs⟩ := hr.at_ n _ a eo ha
      exact ⟨a, C, dx, vfs, rfl, hc, h1, hn, rs⟩
    · cases e
  | _ => cases e
theorem lookup_at : ∀ {vfs : List (Str × V)} {i : Nat} {f : Str} {v : V}, (vfs.map (·.1)).Nodup → (vfs.map (·.1))[i]? = some f → (vfs.map (·.2))[i]? = some v → vfs.lookup f = some v
  | [], _, _, _, _, h, _ => by simp at h
  | (g, w) :: r, 0, f, v, hn, h1, h2 => by
    simp at h1 h2
    subst h1 h2
    simp [List.lookup]
  | (g, w) :: r, i + 1, f, v, hn, h1, h2 => by
    simp at h1 h2
    rw [List.map_cons, List.nodup_cons] at hn
    have ne : (f == g) = false := by
      apply beq_false_of_ne
      intro z
      subst z
      obtain ⟨w', hw'⟩ := h1
      exact hn.1 (List.mem_map.mpr ⟨_, List.mem_of_getElem? hw', rfl⟩)
    simp only [List.lookup, ne]
    exact lookup_at hn.2 (by simpa using h1) (by simpa using h2)
end
end TL
set_option Elab.async false
set_option linter.all false
set_option maxRecDepth 100000
set_option maxHeartbeats 4000000
namespace TL
open PySem PySem.Spec L2
section
variable {X : Cx} {Y : Wd}
theorem take_nodup {α : Type} {l : List α} (h : l.Nodup) (n : Nat) : (l.take n).Nodup := h.sublist (List.take_sublist n l)
theorem take_at {α : Type} {l : List α} {n i : Nat} {x : α} (h : l[i]? = some x) (hi : i < n) : (l.take n)[i]? = some x := by
  rw [List.getElem?_take_of_lt hi]; exact h
/-- e.f, field i of class c -/
def eFld (c i : Nat) (f : ME) : ME := fun τ h => match f τ h with
  | .ok t h1 => (match getI h1 t with
    | some (c', fs) => if c' = c then (match fs[i]? with
      | some u => .ok u h1
      | none => .bad) else .bad
    | none => .bad)
  | .bad => .bad
theorem xFld {c i : Nat} {C : Addr} {e : Expr} {f : Str} {g : ME} {pos : Pos} (hK : X.K = Y.K) (hc : Y.cm c = some C) (hf : (Y.fn c)[i]? = some f) (hn : (Y.fn c).Nodup) (cl : Cls Y.K C) (na : NoAttr Y.K C f) (he : PE X e (TM Y g)) (hb : attributeBase e f X.env (eval e X.env) = eval e X.env := by rfl) :
    PE X (.Attribute e f pos) (TM Y (eFld c i g)) := pe_imp (pe_fld he hb) fun σ H Q q => by
  obtain ⟨ρ, τ, h, t, h', G, e, to⟩ := q
  unfold eFld at e
  cases e1 : g τ h with
  | bad => simp only [e1] at e; cases e
  | ok o h1 =>
    simp only [e1] at e
    split at e
    · rename_i c' fs eo
      split at e
      · rename_i ec
        subst ec
        split at e
        · rename_i u eu
          cases e
          refine ⟨ρ, τ, h, o, _, G, e1, ⟨fun ρ1 H1 v ev hr r => ?_⟩⟩
          obtain ⟨a, C', dx, vfs, rfl, hc', ha, hm, rs⟩ := getI_ok r hr eo
          rw [hc] at hc'
          cases hc'
          obtain ⟨w, ew, rw'⟩ := rs.get eu
          have hi : i < fs.length := (List.getElem?_eq_some_iff.mp eu).1
          rw [hK]
          exact ⟨a, C, dx, vfs, w, rfl, ha, cl, na, lookup_at (by rw [hm]; exact take_nodup hn _) (by rw [hm]; exact take_at hf hi) ew, to.to ρ1 H1 _ ev hr rw'⟩
        · cases e
      · cases e
    · cases e
def gFldR (K : PySem.W.Frag) (ta : TE) (f : Str) : TG := fun v σ H Q => ta σ H fun x H2 => ∃ a C dx fs, x = .ref a ∧ H2 a = some (.ins C dx fs) ∧ Cls K C ∧ NoAttr K C f ∧ fs.length < 1000 ∧ Q σ (upd H2 a (.ins C dx (putF f v fs)))
theorem pg_fldR {o : Expr} {f : Str} {ta : TE} {pos : Pos} (ha : PE X o ta) : PG X (.Attribute o f pos) (gFldR X.K ta f) := by
  refine ⟨fun pins s σ H v u Q I r h => ?_⟩
  refine PySem.W.kas_attr (thn (ha.run pins s σ H _ I h) fun ov s2 ⟨x, H2, I2, rx, a, C, dx, fs, ex, ea, c, n, l, q2⟩ => ?_)
  subst ex
  obtain rfl : ov = Value.ref a := rx
  exact setattr_ok I2 ea c n l r fun s3 I3 => ⟨σ, _, I3, q2⟩
theorem putF_new : ∀ {vfs : List (Str × V)} {f : Str} {v : V}, f ∉ vfs.map (·.1) → putF f v vfs = vfs ++ [(f, v)]
  | [], f, v, _ => rfl
  | (g, w) :: r, f, v, h => by
    simp only [List.map_cons, List.mem_cons, not_or] at h
    unfold putF
    rw [if_neg (fun z => h.1 z.symm), putF_new h.2]
    rfl
theorem putF_old : ∀ {vfs : List (Str × V)} {i : Nat} {f : Str} {v : V}, (vfs.map (·.1)).Nodup → (vfs.map (·.1))[i]? = some f → (putF f v vfs).map (·.1) = vfs.map (·.1) ∧ (putF f v vfs).map (·.2) = (vfs.map (·.2)).set i v
  | [], _, _, _, _, h => by simp at h
  | (g, w) :: r, 0, f, v, hn, h1 => by
    simp at h1
    subst h1
    unfold putF
    simp
  | (g, w) :: r, i + 1, f, v, hn, h1 => by
    simp at h1
    rw [List.map_cons, List.nodup_cons] at hn
    have ne : ¬ f = g := fun z => by
      subst z
      obtain ⟨w', hw'⟩ := h1
      exact hn.1 (List.mem_map.mpr ⟨_, List.mem_of_getElem? hw', rfl⟩)
    unfold putF
    rw [if_neg (fun z => ne z.symm)]
    obtain ⟨q1, q2⟩ := putF_old (v := v) hn.2 (by simpa using h1)
    simp [q1, q2]
def mgFld (c i : Nat) (f : ME) : MG := fun t τ h => match f τ h with
  | .ok (.ref n) h1 => (match h1[n]? with
    | some (.ins c' fs) => if c' = c ∧ i ≤ fs.length then .ok τ (h1.set n (.ins c (if i < fs.length then fs.set i t else fs ++ [t]))) else .bad
    | _ => .bad)
  | _ => .bad
theorem ins_set {ρ : Rh} {H : Hp} {n : Nat} {a : Addr} {c i : Nat} {C dx : Addr} {fs : List T} {vfs : List (Str × V)} {f : Str} {t : T} {v : V} {h : VH} (hr : HR Y ρ H h) (ha : ρ.ix[n]? = some a) (hc : Y.cm c = some C) (hf : (Y.fn c)[i]? = some f) (hn : (Y.fn c).Nodup)
    (hm : vfs.map (·.1) = (Y.fn c).take fs.length) (rs : Rps Y ρ H fs (vfs.map (·.2))) (rt : Rp Y ρ H t v) (hi : i ≤ fs.length) (hh : H a = some (.ins C dx vfs)) :
    HR Y ρ (upd H a (.ins C dx (putF f v vfs))) (h.set n (.ins c (if i < fs.length then fs.set i t else fs ++ [t]))) := by
  have e1 : Ev ρ H ρ (upd H a (.ins C dx (putF f v vfs))) := Ev.write (List.mem_of_getElem? ha) (by rw [hh]; exact fun _ _ z => nomatch z)
  have hl : vfs.length = fs.length := by have := rs.length; simpa using this
  have hlen : ((Y.fn c).take fs.length).length = fs.length := by rw [← hm, List.length_map, hl]
  refine hr.write ha (by rw [hh]; exact fun _ _ z => nomatch z) ?_
  by_cases q : i < fs.length
  · rw [if_pos q]
    obtain ⟨q1, q2⟩ := putF_old (v := v) (vfs := vfs) (i := i) (f := f) (by rw [hm]; exact take_nodup hn _) (by rw [hm]; exact take_at hf q)
    refine ⟨C, dx, _, hc, upd_same, ?_, ?_⟩
    · rw [q1, hm, List.length_set]
    · rw [q2]
      exact (rs.set rt i).ev e1.toEvR
  · rw [if_neg q]
    have ei : i = fs.length := by omega
    have nin : f ∉ vfs.map (·.1) := by
      rw [hm]
      intro z
      obtain ⟨j, hj, ej⟩ := List.getElem_of_mem z
      rw [List.getElem_take] at ej
      have hj2 : j < fs.length := by rw [hlen] at hj; exact hj
      obtain ⟨hi3, e3⟩ := List.getElem?_eq_some_iff.mp hf
      have := (List.getElem_inj hn).mp (ej.trans e3.symm)
      omega
    refine ⟨C, dx, _, hc, upd_same, ?_, ?_⟩
    · rw [putF_new nin, List.map_append, hm, List.length_append]
      simp only [List.map_cons, List.map_nil, List.length_singleton]
      rw [List.take_succ, ← ei, hf]
      rfl
    · have z := (rs.snoc rt).ev e1.toEvR
      rw [putF_new nin] at z ⊢
      rw [List.map_append]
      exact z
theorem xgFld {c i : Nat} {C : Addr} {o : Expr} {f : Str} {g : ME} {pos : Pos} (hK : X.K = Y.K) (hc : Y.cm c = some C) (hf : (Y.fn c)[i]? = some f) (hn : (Y.fn c).Nodup) (hz : (Y.fn c).length < 1000) (cl : Cls Y.K C) (na : NoAttr Y.K C f) (ho : PE X o (TM Y g)) : PG X (.Attribute o f pos) (TMG Y (mgFld c i g)) :=
  pg_imp (pg_fldR ho) fun v σ H Q q => by
    obtain ⟨ρ, τ, h, t, τ', h', G, r, e, to⟩ := q
    unfold mgFld at e
    split at e
    · rename_i n h1 e1
      split at e
      · rename_i c' fs eo
        split at e
        · rename_i q
          obtain ⟨rfl, hi⟩ := q
          cases e
          refine ⟨ρ, τ, h, _, h1, G, e1, ⟨fun ρ1 H1 w ev hr1 rw' => ?_⟩⟩
          cases rw' with
          | @ref _ a ha =>
            obtain ⟨C', dx, vfs, hc', hh, hm, rs⟩ := hr1.at_ n _ a eo ha
            rw [hc] at hc'
            cases hc'
            rw [hK]
            have hl : vfs.length = fs.length := by have := rs.length; simpa using this
            have hlen : fs.length ≤ (Y.fn c').length := by
              have := congrArg List.length hm
              rw [List.length_map, List.length_take] at this
              omega
            have hw := ins_set (dx := dx) (i := i) hr1 ha hc hf hn hm rs (r.ev ev.toEvR) hi hh
            have ev1 : Ev ρ1 H1 ρ1 (upd H1 a (.ins C dx (putF f v vfs))) := Ev.write (List.mem_of_getElem? ha) (by rw [hh]; exact fun _ _ z => nomatch z)
            exact ⟨a, C, dx, vfs, rfl, hh, cl, na, by omega, to ρ1 _ σ (ev.trans ev1) hw (G.sl.ev (ev.trans ev1).toEvR)⟩
        · cases e
      · cases e
    · cases e
def rMake (C : Addr) (sp : Sp) (E : XK) : List V → Hp → VK → Prop := fun vs H1 Q => ∀ x dx, H1 x = none → H1 dx = none → dx ≠ x → sp (V.ref x :: (vs ++ [])) (upd (upd H1 dx (HO.own x)) x (HO.ins C dx [])) (fun v H2 => v = V.non ∧ Q (V.ref x) H2) E
def makeM (c : Nat) (m : List T → VH → Res T) : List T → VH → Res T := fun ts h => match m (.ref h.length :: ts) (h ++ [.ins c []]) with
  | .ok .non h' => .ok (.ref h.length) h'
  | _ => .bad
theorem ct_make {c : Nat} {C : Addr} {m : List T → VH → Res T} {E : XK} (hc : Y.cm c = some C) : CT Y (rMake C (spM Y m) E) (makeM c m) := fun ρ H ts vs h t h' Q r hr e to => by
  unfold makeM at e
  split at e
  · rename_i h1 e1
    cases e
    intro x dx hx hdx hne
    rw [List.append_nil]
    have evd : Ev ρ H ρ (upd H dx (.own x)) := Ev.new hdx
    have hr1 : HR Y ρ (upd H dx (.own x)) h := hr.new hdx
    have hx1 : (upd H dx (.own x)) x = none := by rw [upd_ne (fun z => hne z.symm)]; exact hx
    have evx : Ev ρ (upd H dx (.own x)) (ρ.push x) (upd (upd H dx (.own x)) x (.ins C dx [])) := Ev.newρ hx1
    have hr2 : HR Y (ρ.push x) (upd (upd H dx (.own x)) x (.ins C dx [])) (h ++ [.ins c []]) := hr1.push hx1 ⟨C, dx, [], hc, upd_same, by simp, .nil⟩
    have ev2 := evd.trans evx
    have hix : (ρ.push x).ix[h.length]? = some x := by
      show (ρ.ix ++ [x])[h.length]? = _
      rw [List.getElem?_append_right (by rw [hr.len]; exact Nat.le_refl _), hr.len]
      simp
    refine ⟨ρ.push x, _, _, _, _, .cons (.ref hix) (r.ev ev2.toEvR), hr2, e1, ⟨fun ρ3 H3 v ev3 hr3 r3 => ?_⟩⟩
    cases r3
    exact ⟨rfl, to.to ρ3 H3 _ (ev2.trans ev3) hr3 (.ref (ev3.toEvR.get hix))⟩
  · cases e
def VO.lowR (n : Nat) : VO → Bool
  | .lst ts => lowRs n ts
  | .ins _ fs => lowRs n fs
  | .dct kvs => lowRs n (kvs.map (·.1)) && lowRs n (kvs.map (·.2))
  | .dcT kvs => lowRs n (kvs.map (·.2))
  | .dcF kvs => lowRs n (kvs.map (·.1)) && lowRs n (kvs.map (·.2))
  | .dcN kvs => lowRs n (kvs.map (·.1)) && lowRs n (kvs.map (·.2))
  | .tab _ => true
theorem OR.cut {ρ ρ' : Rh} {H : Hp} (s : Sub ρ ρ') {a : Addr} {o : VO} (r : OR Y ρ' H a o) (q : o.lowR ρ.ix.length = true) : OR Y ρ H a o := by
  cases o with
  | lst ts => obtain ⟨vs, h1, hz, h2⟩ := r; exact ⟨vs, h1, hz, h2.down s q⟩
  | ins c fs => obtain ⟨C, dx, vfs, hc, h1, hn, h2⟩ := r; exact ⟨C, dx, vfs, hc, h1, hn, h2.down s q⟩
  | dct kvs =>
    simp only [VO.lowR, Bool.and_eq_true] at q
    obtain ⟨vk, h1, h2, h3⟩ := r
    exact ⟨vk, h1, h2.down s q.1, h3.down s q.2⟩
  | dcT kvs => obtain ⟨vk, h1, h2, h3⟩ := r; exact ⟨vk, h1, h2, h3.down s q⟩
  | dcF kvs =>
    simp only [VO.lowR, Bool.and_eq_true] at q
    obtain ⟨z, vk, h1, h2, h3⟩ := r
    exact ⟨z, vk, h1, h2.down s q.1, h3.down s q.2⟩
  | dcN kvs =>
    simp only [VO.lowR, Bool.and_eq_true] at q
    obtain ⟨xs, h1, h0, h2, h3⟩ := r
    exact ⟨xs, h1, h0, h2.down s q.1, h3.down s q.2⟩
  | tab nm => exact ⟨r.1, TbAt.to r.2 rfl fun c o z => ⟨s.out o, z⟩⟩
theorem HR.cut {ρ ρ' : Rh} {H H0 : Hp} {h h' : VH} (s : Sub ρ ρ') (r : HR Y ρ' H h') (q : HR Y ρ H0 h) (e : (h'.take h.length).all (VO.lowR h.length) = true) : HR Y ρ H (h'.take h.length) := by
  obtain ⟨m, em⟩ := s.ix
  have hl : ρ'.ix.length = h'.length := r.len
  have hl0 : ρ.ix.length = h.length := q.len
  have hle : h.length ≤ h'.length := by rw [← hl, em, List.length_append, hl0]; omega
  refine ⟨by rw [List.length_take, hl0]; omega, q.nd, fun a ha => ?_, fun a ha => r.bl a (by rw [s.bn]; exact ha), fun n o a h1 h2 => ?_, r.tbTo (fun _ o _ => s.out o) fun _ _ _ => rfl⟩
  · obtain ⟨b1, b2⟩ := r.bt a (by rw [s.bn]; exact ha)
    exact ⟨b1, fun z => b2 (by rw [em]; exact List.mem_append_left _ z)⟩
  · have hn : n < ρ.ix.length := (List.getElem?_eq_some_iff.mp h2).1
    have h3 : h'[n]? = some o := by
      rw [List.getElem?_take_of_lt (by rw [← hl0]; exact hn)] at h1
      exact h1
    have h4 : ρ'.ix[n]? = some a := by
      rw [em, List.getElem?_append_left hn]
      exact h2
    exact (r.at_ n o a h3 h4).cut s (by rw [hl0]; exact List.all_eq_true.mp e o (List.mem_of_getElem? h1))
/-- a call whose new things are forgotten, but for what it hands back -/
def cutM (m : List T → VH → Res T) : List T → VH → Res T := fun ts h => match m ts h with
  | .ok t h' => if (h'.take h.length).all (VO.lowR h.length) = true then (match frz h.length h' 4 t with
    | some u => .ok u (h'.take h.length)
    | none => .bad) else .bad
  | .bad => .bad
theorem to_cut {ρ : Rh} {H : Hp} {h h' : VH} {t u : T} {Q : VK} (hr : HR Y ρ H h) (hq : (h'.take h.length).all (VO.lowR h.length) = true) (ef : frz h.length h' 4 t = some u) (to : To Y (Rp Y) ρ H u (h'.take h.length) Q) : To Y (Rp Y) ρ H t h' Q :=
  ⟨fun ρ' H' v ev hr' rv => by
    have s : Sub ρ ρ' := ⟨let ⟨m, e, _⟩ := ev.more; ⟨m, e⟩, ev.bn⟩
    have ex : Ev ρ H ρ H' := .mk' ⟨[], by simp⟩ rfl ev.keep ev.there ev.fz
    exact to.to ρ H' v ex (hr'.cut s hr hq) (frz_ok s hr' 4 t v _ rv (by rw [hr.len]; exact ef))⟩
theorem ct_cut {r : List V → Hp → VK → Prop} {m : List T → VH → Res T} (ct : CT Y r m) : CT Y r (cutM m) := fun ρ H ts vs h u h1 Q rs hr e to => by
  unfold cutM at e
  split at e
  · rename_i t h' em
    split at e
    · rename_i hq
      split at e
      · rename_i u' ef
        cases e
        exact ct ρ H ts vs h t h' Q rs hr em (to_cut hr hq ef to)
      · cases e
    · cases e
  · cases e
theorem spM_cut {m : List T → VH → Res T} {vs : List V} {H : Hp} {Q : VK} {E : XK} (q : spM Y (cutM m) vs H Q E) : spM Y m vs H Q E := by
  obtain ⟨ρ, ts, h, u, h1, r, hr, e, to⟩ := q
  unfold cutM at e
  split at e
  · rename_i t h' em
    split at e
    · rename_i hq
      split at e
      · rename_i u' ef
        cases e
        exact ⟨ρ, ts, _, t, h', r, hr, em, to_cut hr hq ef to⟩
      · cases e
    · cases e
  · cases e
theorem fnCut {P : Program} {w : World} {K : PySem.W.Frag} {mg : Str → Option Value} {base : Heap} {k : Nat} {f : Addr} {fd : FuncData} {ps : List Str} {m : List T → VH → Res T} (F : FnOk P w K mg base CX0 k f fd ps (spM Y m)) : FnOk P w K mg base CX0 k f fd ps (spM Y (cutM m)) :=
  F.imp fun _ _ _ _ q => spM_cut q
/-- C(e, ..): made, and cut off -/
theorem xMake {c k : Nat} {f C : Addr} {fd : FuncData} {ps : List Str} {m : List T → VH → Res T} {x : Str} {p pos : Pos} {e : Expr} {es : List Expr} {g : MA} (hc : Y.cm c = some C) (M : Mk X.K C f) (F : FnOk X.prog X.w X.K X.mg X.base CX0 k f fd ps (spM Y m)) (hr : Room (k + 1) X.A) (hg : Gl X x) (hm : X.mg x = some (.ref C)) (hb : Binds X.K fd ps [])
    (ha : PA X (e :: es) (TMA Y g)) (hdb : (x == ("__debug__" : Str)) = false := by decide) (he : starEach (e :: es) X.env = (false, eval e X.env) :: starEach es X.env := by rfl) (hpl : (backTo pos (starEach es X.env)).any (·.1) = false := by rfl) :
    PE X (.Call (.Name x p) (e :: es) [] pos) (TM Y (eCall (cutM (makeM c m)) g)) := pe_imp (pe_make M F hr hg hm hb .nil pass0 ha hdb he hpl) fun σ H Q q => tm_call (ct_cut (ct_make (E := E0) hc)) q
inductive TyC where
  | b (n : String) | o (c : Nat)
/-- the type's name, or the class -/
def tyOf (h : VH) : T → Option TyC
  | .non => some (.b "NoneType")
  | .bl _ => some (.b "bool")
  | .int _ => some (.b "int")
  | .str _ => some (.b "str")
  | .tup _ => some (.b "tuple")
  | .lst _ => some (.b "list")
  | .arg _ => none
  | .tpx _ => none
  | .obj c _ => some (.o c)
  | .ref n => match h[n]? with
    | some (.lst _) => some (.b "list")
    | some (.ins c _) => some (.o c)
    | some (.dct _) => some (.b "dict")
    | some (.dcT _) => some (.b "dict")
    | some (.dcF _) => none
    | some (.dcN _) => none
    | some (.tab _) => none
    | none => none
def TyC.v (Y : Wd) : TyC → Value → Prop
  | .b n, u => u = .type n
  | .o c, u => ∃ C, Y.cm c = some C ∧ u = .ref C
def tyNames : List String := ["NoneType", "bool", "int", "str", "tuple", "list", "dict"]
def TyC.fit : TyC → Bool
  | .b n => tyNames.contains n
  | .o _ => true
/-- a class of the text, its facts -/
structure CF (K : PySem.W.Frag) (C : Addr) : Prop where
  cls : Cls K C
  at_ : PySem.W.findIn K (.ref C) "__class__" = some (some (.builtin "object.__class__"))
  sp : PySem.W.specialIn K (.builtin "object.__class__") "__get__" = some (some (.builtin "getset_descriptor.__get__"))
  tk : PySem.W.takesIn K (.builtin "object.__class__") = some true
  mro : PySem.W.mroIn K C (.type "object") = some true
def WdOk (Y : Wd) : Prop := ∀ c C, Y.cm c = some C → CF Y.K C
theorem tyOf_ok (ok : WdOk Y) {ρ : Rh} {H : Hp} {h : VH} {t : T} {v : V} {y : TyC} (r : Rp Y ρ H t v) (hr : HR Y ρ H h) (e : tyOf h t = some y) : y.fit = true ∧ ∃ u, y.v Y u ∧ TyX Y.K H v u := by
  cases r with
  | non => cases e; exact ⟨rfl, _, rfl, .base .non⟩
  | bl b => cases e; exact ⟨rfl, _, rfl, .base (.bl b)⟩
  | int i => cases e; exact ⟨rfl, _, rfl, .base (.int i)⟩
  | str hx => cases e; exact ⟨rfl, _, rfl, .base (.str _)⟩
  | lst la rs => cases e; exact ⟨rfl, _, rfl, .base (.lst la.2.2)⟩
  | arg la rs => cases e
  | tpx la rs => cases e
  | tup ta rs =>
    cases e
    refine ⟨rfl, _, rfl, ?_⟩
    rcases ta.2 with ⟨_, h1 | ⟨o, h1⟩⟩ | ⟨o, its, n, h1, h2, _⟩
    · exact .base (.tup h1)
    · exact .fTuple h1
    · exact .kTuple h1 h2
  | obj hc ho hh hn rs =>
    cases e
    have f := ok _ _ hc
    exact ⟨rfl, _, ⟨_, hc, rfl⟩, .base (.ins hh f.cls f.at_ f.sp f.tk f.mro)⟩
  | @ref n a ha =>
    simp only [tyOf] at e
    cases q : h[n]? with
    | none => rw [q] at e; cases e
    | some o =>
      rw [q] at e
      have z := hr.at_ n o a q ha
      cases o with
      | lst ts => cases e; obtain ⟨vs, h1, _⟩ := z; exact ⟨rfl, _, rfl, .base (.lst h1)⟩
      | ins c fs =>
        cases e
        obtain ⟨C, dx, vfs, hc, h1, _⟩ := z
        have f := ok _ _ hc
        exact ⟨rfl, _, ⟨_, hc, rfl⟩, .base (.ins h1 f.cls f.at_ f.sp f.tk f.mro)⟩
      | dct kvs => cases e; obtain ⟨vk, h1, _⟩ := z; exact ⟨rfl, _, rfl, .base (.dK h1)⟩
      | dcT kvs => cases e; obtain ⟨vk, h1, _⟩ := z; exact ⟨rfl, _, rfl, .base (.dT h1)⟩
      | dcF kvs => cases e
      | dcN kvs => cases e
      | tab nm => cases e
/-- isinstance by type: bool is an int -/
def isiB : TyC → TyC → Bool
  | .b m, .b n => m == n || (m == "bool" && n == "int")
  | .o c, .o d => c == d
  | _, _ => false
def eIsi (y : TyC) (f : ME) : ME := fun τ h => match f τ h with
  | .ok t h1 => (match tyOf h1 t with
    | some x => .ok (.bl (isiB x y)) h1
    | none => .bad)
  | .bad => .bad
theorem xIsi {y : TyC} {e ce : Expr} {f : ME} {p pos : Pos} {cv : V} {cu : Value} (hK : X.K = Y.K) (ok : WdOk Y) (hy : y.v Y cu) (hcv : ClsV cv cu) (hi : ∀ x u, x.fit = true → x.v Y u → PySem.W.kitOne Y.K u cu = some (isiB x y)) (he : PE X e (TM Y f)) (hc : PE X ce (tC cv))
    (hg : Gl X "isinstance") (hm : X.mg "isinstance" = none) (hs2 : starEach [ce] X.env = (false, eval ce X.env) :: starEach [] X.env := by rfl)
    (hs : starEach [e, ce] X.env = (false, eval e X.env) :: starEach [ce] X.env := by rfl) (hpl : (backTo pos (starEach [ce] X.env)).any (·.1) = false := by rfl) :
    PE X (.Call (.Name "isinstance" p) [e, ce] [] pos) (TM Y (eIsi y f)) := pe_imp (pe_callB call_isi hg hm rfl (pa_cons he (pa_cons hc pa_nil hs2) hs) (by decide) (by decide) hs hpl) fun σ H Q q => by
  obtain ⟨ρ, τ, h, t, h', G, e, to⟩ := q
  unfold eIsi at e
  cases e1 : f τ h with
  | bad => simp only [e1] at e; cases e
  | ok o h1 =>
    simp only [e1] at e
    split at e
    · rename_i yo eo
      cases e
      refine ⟨ρ, τ, h, o, _, G, e1, ⟨fun ρ1 H1 v ev hr r => ?_⟩⟩
      obtain ⟨hf, u, hu, ty⟩ := tyOf_ok ok r hr eo
      refine ⟨v, cv, u, cu, _, rfl, hcv, by rw [hK]; exact ty, by rw [hK]; exact hi _ _ hf hu, to.to ρ1 H1 _ ev hr (.bl _)⟩
    · cases e
end
end TL
set_option Elab.async false
set_option linter.all false
set_option maxRecDepth 100000
set_option maxHeartbeats 4000000
namespace TL
open PySem PySem.Spec L2 PyProof.Rows
/-- a place that gives g 0, .., g (n - 1), one a turn -/
structure Src (P : Program) (w : World) (it : Addr) (n : Nat) (g : Nat → V) (St : Nat → Heap → Prop) : Prop where
  draws : ∀ A : Around, A.handled = none → Draws P w A it [it] n (fun i v => RelV (g i) v) St
  solid : ∀ i h, St i h → ∃ o, h.get? it = some o ∧ ∀ v, o.data ≠ .cell v
/-- the pairs (0, g 0), (1, g 1), .. each new -/
def ItG (n : Nat) (g : Nat → V) : It where
  go i _ := i < n
  yld i H v H' := ∃ T, v = .ref T ∧ H T = none ∧ H' = upd H T (.tup [.int (i : Nat), g i])
  stop i _ := n ≤ i
/-- where such a walk stands before turn i -/
structure At (e it : Addr) (n : Nat) (St : Nat → Heap → Prop) (i : Nat) (h : Heap) : Prop where
  head : ∃ last, IsEnum h e it (i : Int) last
  tail : St i h
  two : it ≠ e
  most : i ≤ n
section
variable {P : Program} {w : World} {K : PySem.W.Frag} {e it : Addr} {n : Nat} {g : Nat → V} {St : Nat → Heap → Prop}
theorem At.born {i : Nat} {h : Heap} (S : Src P w it n g St) (a : At e it n St i h) {b : Addr} (m : b ∈ [e, it]) : ∃ o, h.get? b = some o ∧ ∀ v, o.data ≠ .cell v := by
  rcases List.mem_cons.mp m with rfl | m
  · exact let ⟨_, q⟩ := a.head; ⟨_, q, nofun⟩
  · rw [List.mem_singleton.mp m]; exact S.solid i h a.tail
/-- the pair as it comes out -/
theorem pair_ok {X : Cx} {H : Hp} {h : Heap} {T : Addr} {i : Nat} {tk : Tok} {x : V} {v : Value} (r : RelV x v) (at_ : h.get? T = some { cls := .type "tuple", data := .seq #[.int (i : Int) tk, v] }) : ObjOk X.prog X.w (upd H T (.tup [.int (i : Nat), x])) h T (.tup [.int (i : Nat), x]) :=
  ⟨(by decide : 2 ≤ sizeLine), _, .cons ⟨tk, rfl⟩ (.cons r .nil), _, at_, rfl, _, rfl⟩
theorem turn_src {es : List Expr} {j : Nat} {tp : Pos} (S : Src P w it n g St) : Turn P w K (.Tuple es j tp) (ItG n g) [e, it] e (At e it n St) := by
  have frame : ∀ i h h', At e it n St i h → (∀ b ∈ [e, it], ∀ o, h.get? b = some o → h'.get? b = some o) → At e it n St i h' := by
    rintro i h h' ⟨⟨l, q⟩, st, ne, le⟩ k
    refine ⟨⟨l, k e List.mem_cons_self _ q⟩, (S.draws ⟨none, 0, none, none, 0⟩ rfl).frame i h h' st fun b m o => k b (List.mem_cons_of_mem _ m) o, ne, le⟩
  refine ⟨List.mem_cons_self, fun i h a b m => a.born S m, frame, ?item, ?done, fun A i s Q E a h => let ⟨_, q⟩ := a.head; wpAny_pyIter_enum q h⟩
  case item =>
    rintro X rfl rfl rfl calm i pins s σ H E I own ⟨⟨l, q⟩, st, ne, le⟩ lt
    refine wpAny_pyNext_enum_itemD (S.draws _ (I.ok.hd calm)) q st lt ne.symm (by simpa using ne.symm) fun v h1 tk rv out st1 pr _ same => ⟨_, rfl, ?_⟩
    refine wpAny_letOwnedTupleGo_enum (s := { s with heap := h1, toks := tk + 1 }) out fun h2 q2 but => ?_
    have old : ∀ b ∈ [e, it], b < s.heap.objs.size := fun b m => let ⟨_, z, _⟩ := At.born (n := n) S ⟨⟨l, q⟩, st, ne, le⟩ m; Heap.lt_size z
    have lone : s.heap.objs.size ≠ e := fun z => Nat.lt_irrefl _ (z ▸ old e List.mem_cons_self)
    have J := I.turnedNew (t' := tk + 1) (ch := [e, it]) (fun b o m z => by
      rw [but.2 b fun y => m (y ▸ List.mem_cons_self)]
      exact same b o (fun y => m (y ▸ List.mem_cons_self)) (fun y => m (y ▸ List.mem_cons_of_mem _ List.mem_cons_self)) z) own (Nat.le_refl _) (pair_ok (H := H) rv ((but.2 _ lone).trans pr))
    refine ⟨.ref s.heap.objs.size, _, J, rfl, ⟨_, rfl, I.hok.fresh (Nat.le_refl _), rfl⟩, ⟨⟨v, q2⟩, ?_, ne, lt⟩, fun b m => (upd_ne (Nat.ne_of_lt (old b m))).trans (own b m).1⟩
    exact (S.draws ⟨none, 0, none, none, 0⟩ rfl).frame _ h1 h2 st1 fun b m o z => by rw [List.mem_singleton.mp m] at z ⊢; exact (but.2 it ne).trans z
  case done =>
    rintro X rfl rfl rfl calm i pins s σ H E I own ⟨⟨l, q⟩, st, ne, le⟩ ge
    obtain rfl : i = n := Nat.le_antisymm le ge
    have o := own it (List.mem_cons_of_mem _ List.mem_cons_self)
    exact wpAny_pyNext_enum_endD (S.draws _ (I.ok.hd calm)) q st fun h1 but => ⟨rfl, I.turned (t' := s.toks) (fun b ob m z => but b ob m z) o.1 o.2.1 o.2.2.2.1 o.2.2.2.2.1 o.2.2.2.2.2⟩
/-- a text's signs -/
theorem src_str (z : Str) (t : Tok) : Src P w it z.cps.size (fun i => .str ⟨#[z.cps.getD i 0]⟩) (fun i h => h.IsStrIter it (strIterType z) z t i) where
  solid := fun i h st => let ⟨o, q, _, d⟩ := st; ⟨o, q, fun v y => by rw [d] at y; cases y⟩
  draws := fun A hn => by
    have D : Draws P w A it [it] z.cps.size (fun i v => ∃ c u, z.cps[i]? = some c ∧ v = .str ⟨#[c]⟩ u) (fun i h => h.IsStrIter it (strIterType z) z t i) := by
      unfold strIterType
      cases z.cps.all (· < 128)
      · exact Draws.strWide hn it z t
      · exact Draws.strAscii hn it z t
    refine ⟨D.live, D.frame, fun i s Q E lt st k => D.item i s Q E lt st fun x h1 tk p => k x h1 tk ?_, D.done⟩
    obtain ⟨c, u, hc, rfl⟩ := p
    have : z.cps.getD i 0 = c := by rw [Array.getD_eq_getD_getElem?, hc]; rfl
    rw [this]
    exact ⟨u, rfl⟩
end
section
variable {X : Cx} {Y : Wd}
abbrev SignsG (z : Str) : It := ItG z.cps.size fun i => .str ⟨#[z.cps.getD i 0]⟩
def iEnumS (ta : TA) : TI := fun σ H R => ta σ H fun vs H1 => ∃ z, vs = [.str z] ∧ R (SignsG z) H1
theorem pi_enumS {e : Expr} {ta : TA} {p pos tpos : Pos} {es : List Expr} {j : Nat} (hg : Gl X "enumerate") (hm : X.mg "enumerate" = none) (ha : PA X [e] ta) (hs : starEach [e] X.env = [(false, eval e X.env)] := by rfl) :
    PI X (.Tuple es j tpos) (.Call (.Name "enumerate" p) [e] [] pos) (iEnumS ta) := by
  constructor
  intro pins s σ H R I h
  have arg := ha.run pos pins s σ H _ I h
  refine Call_ (ld_blt I hg hm boot_enumerate (PyProof.Rows.callWith_type1 (thn arg ?_) hs rfl))
  rintro us s1 ⟨_, H1, I1, r, z, rfl, q⟩
  match us, r with
  | [_], .cons ⟨t, rfl⟩ .nil =>
    refine call_enumerate_str fun h1 he hit _ more => wpAny_pyIter_enum he ⟨_, [s1.heap.objs.size + 1, s1.heap.objs.size], _, _, H1, rfl, I1.kept (t' := s1.toks) more, turn_src (src_str z t), ⟨⟨.none, he⟩, hit, (Nat.succ_ne_self _).symm, Nat.zero_le _⟩, fun b m => ?_, q⟩
    have young : s1.heap.objs.size ≤ b := by
      rcases List.mem_cons.mp m with y | y
      · exact y ▸ Nat.le_succ _
      · exact Nat.le_of_eq (List.mem_singleton.mp y).symm
    exact I1.fpOk young (I1.hok.fresh young)
def iEnumSM (g : MA) : MI := fun τ h => match g τ h with
  | .ok [.str z] h1 => .ok (fun _ => some (enumT (signsT z))) h1
  | _ => .bad
theorem wk_enumS {z : Str} {ρ : Rh} {H : Hp} : Wk Y (SignsG z) (fun _ => some (enumT (signsT z))) ρ H := by
  have len : (enumT (signsT z)).length = z.cps.size := by simp [enumT, signsT]
  constructor
  · rintro ρ1 H1 h ts i u ev hr ⟨⟩ ei
    have lt : i < z.cps.size := by rw [← len]; exact (List.getElem?_eq_some_iff.mp ei).1
    have this : u = .tup [.int (i : Nat), .str ⟨#[z.cps.getD i 0]⟩] := by
      simp [enumT, signsT, lt] at ei
      rw [← ei]
      simp [lt]
    subst this
    refine ⟨lt, fun x H' y => ?_⟩
    obtain ⟨T', rfl, fresh, rfl⟩ := y
    exact pair_new hr (.int _) (.str (by show (#[_] : Array Nat).size ≤ _; simp)) fresh
  · rintro ρ1 H1 h ts i ev hr ⟨⟩ hl
    show z.cps.size ≤ i
    rw [← len]
    exact hl
theorem xiEnumS {e : Expr} {g : MA} {p pos tpos : Pos} {elts : List Expr} {kk : Nat} (hg : Gl X "enumerate") (hm : X.mg "enumerate" = none) (ha : PA X [e] (TMA Y g)) (hs : starEach [e] X.env = [(false, eval e X.env)] := by rfl) :
    PI X (.Tuple elts kk tpos) (.Call (.Name "enumerate" p) [e] [] pos) (TMI Y (iEnumSM g)) := pi_imp (pi_enumS hg hm ha hs) fun σ H R q => by
  obtain ⟨ρ, τ, h, rd, h', G, e, to⟩ := q
  unfold iEnumSM at e
  split at e
  · rename_i z h1 e1
    cases e
    refine ⟨ρ, τ, h, _, _, G, e1, ⟨fun ρ1 H1 vs ev hr r => ?_⟩⟩
    obtain ⟨v, rfl, rv⟩ := rps_one r
    cases rv
    exact ⟨_, rfl, to ρ1 H1 _ ev hr wk_enumS⟩
  · cases e
/-- the dict at d -/
structure KD (Y : Wd) (w : World) (d : Addr) (kvs : List (Str × T)) : Prop where
  kd : ∃ es n, KDict Y.K w d es n ∧ es.toList.map (fun e => match e.key with | .str x _ => some x | _ => none) = kvs.map fun q => some q.1
  val : ∀ k t, kvs.lookup k = some t → ∃ u v, PySem.W.nsIn Y.K d k = some (some u) ∧ RelV v u ∧ ∀ ρ H, Rp Y ρ H t v
  miss : ∀ k, kvs.lookup k = none → PySem.W.nsIn Y.K d k = some none
def eIxK (kvs : List (Str × T)) (f : ME) : ME := fun τ h => match f τ h with
  | .ok (.str z) h1 => (match kvs.lookup z with
    | some t => .ok t h1
    | none => .bad)
  | _ => .bad
theorem xIxK {b : Expr} {x : Str} {f : ME} {pos p : Pos} {d : Addr} {kvs : List (Str × T)} (hK : X.K = Y.K) (D : KD Y X.w d kvs) (hg : Gl X x) (hm : X.mg x = some (.ref d)) (hb : PE X b (TM Y f)) (hs : PlainIx b) (hd : (x == ("__debug__" : Str)) = false := by decide) :
    PE X (.Subscript (.Name x p) b pos) (TM Y (eIxK kvs f)) := pe_imp (pe_ix ix_kdict (pe_glob hg hm (v := .ref d) rfl hd) hb hs) fun σ H Q q => by
  obtain ⟨ρ, τ, h, t, h', G, e, to⟩ := q
  unfold eIxK at e
  split at e
  · rename_i z h1 e1
    split at e
    · rename_i u eu
      cases e
      refine ⟨ρ, τ, h, _, _, G, e1, ⟨fun ρ1 H1 v ev hr r => ?_⟩⟩
      cases r
      obtain ⟨es, n, k, _⟩ := D.kd
      obtain ⟨u', v', e1, e2, e3⟩ := D.val _ _ eu
      rw [hK]
      exact ⟨d, z, v', rfl, rfl, ⟨es, n, u', k.at_, k.lit, e1, e2⟩, to.to ρ1 H1 _ ev hr (e3 _ _)⟩
    · cases e
  · cases e
def eInK (neg : Bool) (kvs : List (Str × T)) (f : ME) : ME := fun τ h => match f τ h with
  | .ok (.str z) h1 => .ok (.bl (neg != (kvs.lookup z).isSome)) h1
  | _ => .bad
theorem KD.some {d : Addr} {w : World} {kvs : List (Str × T)} (D : KD Y w d kvs) (z : Str) : ∃ r, PySem.W.nsIn Y.K d z = some r ∧ r.isSome = (kvs.lookup z).isSome := by
  cases q : kvs.lookup z with
  | none => exact ⟨_, D.miss z q, rfl⟩
  | some t =>
    obtain ⟨u', v', e1, e2, e3⟩ := D.val _ _ q
    exact ⟨_, e1, rfl⟩
end
section
variable {X : Cx} {Y : Wd}
def iKeysK (kvs : List (Str × T)) : MI := fun _ h => .ok (fun _ => some (kvs.map fun q => T.str q.1)) h
end
end TL
set_option Elab.async false
set_option linter.all false
set_option maxRecDepth 100000
set_option maxHeartbeats 4000000
namespace TL
open PySem PySem.Spec L2
section
variable {X : Cx} {Y : Wd}
theorem ot_eq : OT Y (rEqP Y.K fun d e => PyData.eqv d e) bEq := ot_eqG _
theorem ot_ne : OT Y (rEqP Y.K fun d e => !PyData.eqv d e) bNe := ot_eqG _
theorem ot_lt : OT Y (rO Y.K (fun d e => PySem.W.dataLt d e) fun i j => decide (i < j)) bLt := ot_ord _ _
theorem ot_le : OT Y (rO Y.K (fun d e => !PySem.W.dataLt e d) fun i j => decide (i ≤ j)) bLe := ot_ord _ _
theorem ot_gt : OT Y (rO Y.K (fun d e => PySem.W.dataLt e d) fun i j => decide (j < i)) bGt := ot_ord _ _
theorem ot_ge : OT Y (rO Y.K (fun d e => !PySem.W.dataLt d e) fun i j => decide (j ≤ i)) bGe := ot_ord _ _
theorem ot_inT : OT Y (rInA Y.K false) bIn := ot_in _
theorem xGInt {x : Str} {i : Int} {pos : Pos} (hg : Gl X x) (h : ∃ t, X.mg x = some (.int i t)) (hd : (x == ("__debug__" : Str)) = false := by decide) : PE X (.Name x pos) (TM Y (eK (.int i))) := by
  obtain ⟨t, h⟩ := h
  exact xGlob hg h (v := .int i) ⟨t, rfl⟩ (fun _ _ => .int i) hd
/-- xs * k, a new list that may change -/
def mMul (f g : ME) : MA := fun τ h => match f τ h with
  | .ok a h1 => (match g τ h1 with
    | .ok (.int k) h2 => (match listOf h2 a with
      | some x => if x.length * k.toNat ≤ 16777216 ∧ -1000000000 ≤ k ∧ k ≤ 1000000000 then .ok (List.replicate k.toNat x).flatten h2 else .bad
      | _ => .bad)
    | _ => .bad)
  | .bad => .bad
theorem xMulF {a c : Expr} {f g : ME} {pos : Pos} (ha : PE X a (TM Y f)) (hb : PE X c (TM Y g)) : PE X (.BinOp a .Mult c pos) (TMF Y (mMul f g)) := pe_imp (pe_op op_rep ha hb) fun σ H Q q => by
  obtain ⟨ρ, τ, h, us, h', G, e, to⟩ := q
  unfold mMul at e
  cases e1 : f τ h with
  | bad => simp only [e1] at e; cases e
  | ok o h1 =>
    simp only [e1] at e
    refine ⟨ρ, τ, h, o, h1, G, e1, ⟨fun ρ1 H1 vo ev hr1 ro => ?_⟩⟩
    split at e
    · rename_i k h2 e2
      refine ⟨ρ1, τ, h1, _, h2, G.ev ev hr1, e2, ⟨fun ρ2 H2 vk ev2 hr2 rk => ?_⟩⟩
      cases rk
      split at e
      · rename_i x ex
        split at e
        · rename_i hz
          cases e
          obtain ⟨p, va, rfl, hp, hza, ra⟩ := listOf_ok' (ro.ev ev2.toEvR) hr2 ex
          have hl := hz.1
          rw [← ra.length, ← sizeLine_eq] at hl
          have ev12 := ev.trans ev2
          exact ⟨p, k, va, rfl, rfl, hp, by omega, by omega, hl, lay hr2 (ra.rep _) (by rw [rep_len, Nat.mul_comm]; exact hl) fun ρ' H' D ws ev' hr' hD => to ρ' H' D ws (ev12.trans ev') hr' (ev12.fresh hD)⟩
        · cases e
      · cases e
    · cases e
end
/-- a block's scope, by one Bool -/
def blkB (N : List Str) (sc scope : Scope) (own : List (Str × Nat)) : Bool := own.all (fun p => decide (N[p.2]? = some p.1)) && scope.names.all fun y => decide (scope.names.lookup y.1 = some y.2) && match y.2 with
  | .free => decide (sc.names.lookup y.1 = some .cell) || decide (sc.names.lookup y.1 = some .free)
  | .local => own.any (fun p => decide (p.1 = y.1)) || !N.any fun x => decide (x = y.1)
  | .cell => own.any (fun p => decide (p.1 = y.1)) || !N.any fun x => decide (x = y.1)
  | _ => true
theorem own_of {N : List Str} {own : List (Str × Nat)} {x : Str} (h : (own.any (fun p => decide (p.1 = x)) || !N.any fun y => decide (y = x)) = true) : x ∈ own.map (·.1) ∨ ¬ x ∈ N := by
  rw [Bool.or_eq_true] at h
  rcases h with h | h
  · obtain ⟨p, hp, e⟩ := List.any_eq_true.mp h
    exact .inl (List.mem_map.mpr ⟨p, hp, of_decide_eq_true e⟩)
  · refine .inr fun z => ?_
    have : (N.any fun y => decide (y = x)) = true := List.any_eq_true.mpr ⟨x, z, decide_eq_true rfl⟩
    rw [this] at h
    cases h
theorem blk_of {N : List Str} {sc scope : Scope} {own : List (Str × Nat)} (hk : scope.kind = .function) (h : blkB N sc scope own = true) : BlkOk N sc scope own := by
  unfold blkB at h
  rw [Bool.and_eq_true] at h
  refine ⟨hk, fun y hy => ?_, fun p hp => of_decide_eq_true (List.all_eq_true.mp h.1 p hp), fun y hy e => ?_, fun y hy e => ?_⟩
  · have q := List.all_eq_true.mp h.2 y hy
    rw [Bool.and_eq_true] at q
    exact of_decide_eq_true q.1
  · have q := List.all_eq_true.mp h.2 y hy
    rw [Bool.and_eq_true, e] at q
    have q2 := q.2
    simp only [Bool.or_eq_true] at q2
    exact q2.elim (fun z => .inl (of_decide_eq_true z)) fun z => .inr (of_decide_eq_true z)
  · have q := List.all_eq_true.mp h.2 y hy
    rw [Bool.and_eq_true] at q
    rcases e with e | e <;> rw [e] at q <;> exact own_of q.2
theorem bt_int : bootBuiltins "int" = some (.type "int") := by decide +kernel
theorem bt_str : bootBuiltins "str" = some (.type "str") := by decide +kernel
theorem bt_bool : bootBuiltins "bool" = some (.type "bool") := by decide +kernel
theorem bt_list : bootBuiltins "list" = some (.type "list") := by decide +kernel
theorem bt_tuple : bootBuiltins "tuple" = some (.type "tuple") := by decide +kernel
theorem bt_len : bootBuiltins "len" = some (.builtin "len") := by decide +kernel
theorem bt_max : bootBuiltins "max" = some (.builtin "max") := by decide +kernel
theorem bt_min : bootBuiltins "min" = some (.builtin "min") := by decide +kernel
theorem bt_all : bootBuiltins "all" = some (.builtin "all") := by decide +kernel
theorem bt_abs : bootBuiltins "abs" = some (.builtin "abs") := by decide +kernel
theorem bt_divmod : bootBuiltins "divmod" = some (.builtin "divmod") := by decide +kernel
theorem bt_repr : bootBuiltins "repr" = some (.builtin "repr") := by decide +kernel
/-- what a module's def has -/
def fdOf (K : PySem.W.Frag) (f : Addr) : FuncData := match K.lookup f with
  | some ⟨_, _, .func fd, _⟩ => fd
  | _ => PySem.W.fnOf "" "" ⟨[], [], none, [], [], none, []⟩ [] ⟨.function, [], false, false, []⟩ .none .none .none .none none .none .none
theorem funD_at {K : PySem.W.Frag} {x qual : Str} {params : Arguments} {body : List Stmt} {scope : Scope} {dvs : List V} {kws : List (Str × V)} {f : Addr} {fd : FuncData} (F : FunD K x qual params body scope dvs kws f fd) : FunD K x qual params body scope dvs kws f (fdOf K f) := by
  obtain ⟨oc, od, dV, kV, doc, pm, an, cdv, ct, osl, e, lk, r⟩ := F.ex
  have : fdOf K f = fd := by
    unfold fdOf
    rw [lk, e]
  rw [this]
  exact F
theorem room80 {k : Nat} {A : Around} (h : Room k A) : A.units + 80 < cLine := by
  have := h.un
  omega
/-- the Bool of a written dict's values -/
def relT (K : PySem.W.Frag) : Nat → T → Value → Bool
  | _, .non, .none => true
  | _, .bl b, .bool c => b == c
  | _, .int i, .int j _ => decide (i = j)
  | _, .str x, .str y _ => decide (x = y) && decide (x.length ≤ 1000000)
  | k + 1, .tup ts, .ref a => (match K.lookup a with
    | some ⟨.type c, _, .seq its _, _⟩ => decide (c = "tuple") && (decide (its.size ≤ 16777216) && (decide (its.toList.length = ts.length) && (List.zip ts its.toList).all fun q => relT K k q.1 q.2))
    | _ => false)
  | _, _, _ => false
theorem relTs_ok {Y : Wd} {f : T → Value → Bool} (hf : ∀ t u, f t u = true → ∃ v, RelV v u ∧ ∀ ρ H, Rp Y ρ H t v) : ∀ {ts : List T} {us : List Value}, us.length = ts.length → ((List.zip ts us).all fun q => f q.1 q.2) = true → ∃ vs, Vals vs us ∧ ∀ ρ H, Rps Y ρ H ts vs
  | [], [], _, _ => ⟨[], .nil, fun _ _ => .nil⟩
  | [], _ :: _, h, _ => by cases h
  | _ :: _, [], h, _ => by cases h
  | t :: ts, u :: us, h, e => by
    simp only [List.zip_cons_cons, List.all_cons, Bool.and_eq_true] at e
    obtain ⟨v, r1, r2⟩ := hf t u e.1
    obtain ⟨vs, q1, q2⟩ := relTs_ok hf (by simpa using h) e.2
    exact ⟨v :: vs, .cons r1 q1, fun ρ H => .cons (r2 ρ H) (q2 ρ H)⟩
theorem relT_ok {Y : Wd} : ∀ (k : Nat) (t : T) (u : Value), relT Y.K k t u = true → ∃ v, RelV v u ∧ ∀ ρ H, Rp Y ρ H t v := by
  intro k
  induction k with
  | zero =>
    intro t u h
    cases t <;> cases u <;> first | (cases h; done) | skip
    · exact ⟨.non, rfl, fun _ _ => .non⟩
    · have e := eq_of_beq h; subst e; exact ⟨.bl _, rfl, fun _ _ => .bl _⟩
    · have e := of_decide_eq_true h; subst e; exact ⟨.int _, ⟨_, rfl⟩, fun _ _ => .int _⟩
    · simp only [relT, Bool.and_eq_true] at h
      have e := of_decide_eq_true h.1; subst e
      exact ⟨.str _, ⟨_, rfl⟩, fun _ _ => .str (of_decide_eq_true h.2)⟩
  | succ k ih =>
    intro t u h
    cases t <;> cases u <;> first | (cases h; done) | skip
    · exact ⟨.non, rfl, fun _ _ => .non⟩
    · have e := eq_of_beq h; subst e; exact ⟨.bl _, rfl, fun _ _ => .bl _⟩
    · have e := of_decide_eq_true h; subst e; exact ⟨.int _, ⟨_, rfl⟩, fun _ _ => .int _⟩
    · simp only [relT, Bool.and_eq_true] at h
      have e := of_decide_eq_true h.1; subst e
      exact ⟨.str _, ⟨_, rfl⟩, fun _ _ => .str (of_decide_eq_true h.2)⟩
    · rename_i ts a
      simp only [relT] at h
      split at h
      · rename_i c od its n sl lk
        simp only [Bool.and_eq_true] at h
        obtain ⟨h1, h2, h3, h4⟩ := h
        have e := of_decide_eq_true h1
        subst e
        obtain ⟨vs, q1, q2⟩ := relTs_ok ih (of_decide_eq_true h3) h4
        have hz : its.size ≤ sizeLine := by rw [sizeLine_eq]; exact of_decide_eq_true h2
        have hl : vs.length = its.toList.length := q1.length
        refine ⟨.ref a, rfl, fun ρ H => .tup ⟨by rw [hl, Array.length_toList]; exact hz, .inr ⟨_, its, n, lk, rfl, rfl, hz, q1⟩⟩ (q2 ρ H)⟩
      · cases h
/-- the Bool of a written dict -/
def kdB (K : PySem.W.Frag) (x : Str) (kvs : List (Str × T)) : Bool := match K.lookup (He.ga K x) with
  | some ⟨_, _, .dict es _, _⟩ => decide (es.toList.map (fun e => match e.key with | .str x _ => some x | _ => none) = kvs.map fun q => some q.1) && (!es.toList.any (·.refKey) && kvs.all fun q => match PySem.W.nsIn K (He.ga K x) q.1 with
      | some (some u) => relT K 3 q.2 u
      | _ => false)
  | _ => false
theorem lookup_mem' {kvs : List (Str × T)} {k : Str} {t : T} (h : kvs.lookup k = some t) : (k, t) ∈ kvs := by
  induction kvs with
  | nil => cases h
  | cons q r ih =>
    obtain ⟨a, b⟩ := q
    simp only [List.lookup] at h
    split at h
    · rename_i e
      cases h
      rw [eq_of_beq e]
      exact List.mem_cons_self
    · exact List.mem_cons_of_mem _ (ih h)
theorem kd_of {Y : Wd} {w : World} {x : Str} {kvs : List (Str × T)} (hd : ∃ es n, KDict Y.K w (He.ga Y.K x) es n) (hb : kdB Y.K x kvs = true) : KD Y w (He.ga Y.K x) kvs := by
  obtain ⟨es, n, D⟩ := hd
  unfold kdB at hb
  rw [D.at_] at hb
  simp only [Bool.and_eq_true] at hb
  obtain ⟨h1, h2, h3⟩ := hb
  have hk := of_decide_eq_true h1
  refine ⟨⟨es, n, D, hk⟩, fun k t e => ?_, fun k e => ?_⟩
  · have h4 := List.all_eq_true.mp h3 _ (lookup_mem' e)
    simp only at h4
    split at h4
    · rename_i u eu
      obtain ⟨v, r1, r2⟩ := relT_ok 3 t u h4
      exact ⟨u, v, eu, r1, r2⟩
    · cases h4
  · unfold PySem.W.nsIn
    rw [D.at_]
    simp only
    have hn : es.toList.find? (·.key.isStr k) = none := by
      rw [List.find?_eq_none]
      intro en hen hz
      have hm : (match en.key with | .str x _ => some x | _ => none) ∈ kvs.map fun q => some q.1 := by
        rw [← hk]
        exact List.mem_map.mpr ⟨en, hen, rfl⟩
      cases q : en.key with
      | str y tk =>
        rw [q] at hm hz
        have hy : y = k := by simpa [Value.isStr] using hz
        subst hy
        simp only [List.mem_map, Option.some.injEq] at hm
        obtain ⟨p, hp, ep⟩ := hm
        rw [List.lookup_eq_none_iff] at e
        have := e p hp
        rw [ep] at this
        simp at this
      | _ => rw [q] at hz; simp [Value.isStr] at hz
    rw [hn]
    have h2' : (es.toList.any (·.refKey)) = false := by
      cases q : es.toList.any (·.refKey) with
      | false => rfl
      | true => rw [q] at h2; cases h2
    simp only [h2']
    rfl
end TL
set_option Elab.async false
set_option linter.all false
set_option maxRecDepth 100000
set_option maxHeartbeats 4000000
namespace TL
open PySem PySem.Spec L2
/-- the classes: number, name, attributes -/
abbrev ClT := List (Nat × Str × List Str)
def wdOf (w : World) (cl : ClT) (K : PySem.W.Frag) (tl : List (Str × He.Defn) := []) : Wd := ⟨K, fun c => (cl.lookup c).map fun q => He.ga K q.1, fun c => match cl.lookup c with | some q => q.2 | none => [], w, fun q => (tl.lookup q).map fun p => (He.cT K p).2⟩
theorem lookup_mem2 {α β : Type} [BEq α] [LawfulBEq α] {l : List (α × β)} {k : α} {t : β} (h : l.lookup k = some t) : (k, t) ∈ l := by
  induction l with
  | nil => cases h
  | cons q r ih =>
    obtain ⟨a, b⟩ := q
    simp only [List.lookup] at h
    split at h
    · rename_i e
      cases h
      rw [eq_of_beq e]
      exact List.mem_cons_self
    · exact List.mem_cons_of_mem _ (ih h)
/-- isinstance's answers -/
def isiChk (cl : ClT) (K : PySem.W.Frag) (w : Value) (y : TyC) : Bool := (tyNames.all fun n => decide (PySem.W.kitOne K (.type n) w = some (isiB (.b n) y))) && cl.all fun q => decide (PySem.W.kitOne K (.ref (He.ga K q.2.1)) w = some (isiB (.o q.1) y))
theorem isi_of {w' : World} {cl : ClT} {K : PySem.W.Frag} {tl : List (Str × He.Defn)} {w : Value} {y : TyC} (h : isiChk cl K w y = true) : ∀ x u, x.fit = true → x.v (wdOf w' cl K tl) u → PySem.W.kitOne K u w = some (isiB x y) := by
  unfold isiChk at h
  rw [Bool.and_eq_true] at h
  intro x u hf hv
  cases x with
  | b n =>
    cases hv
    have hm : n ∈ tyNames := by simpa [TyC.fit] using hf
    exact of_decide_eq_true (List.all_eq_true.mp h.1 n hm)
  | o c =>
    obtain ⟨C, hC, rfl⟩ := hv
    have hC : (cl.lookup c).map (fun q => He.ga K q.1) = some C := hC
    rw [Option.map_eq_some_iff] at hC
    obtain ⟨q, hq, rfl⟩ := hC
    exact of_decide_eq_true (List.all_eq_true.mp h.2 _ (lookup_mem2 hq))
def cfB (K : PySem.W.Frag) (C : Addr) : Bool := He.eqO (PySem.W.findIn K (.ref C) "__class__") (some (some (.builtin "object.__class__"))) && (He.eqO (PySem.W.specialIn K (.builtin "object.__class__") "__get__") (some (some (.builtin "getset_descriptor.__get__"))) &&
  (decide (PySem.W.takesIn K (.builtin "object.__class__") = some true) && decide (PySem.W.mroIn K C (.type "object") = some true)))
theorem cf_of {K : PySem.W.Frag} {x : Str} (c : (He.Fa.cls x).ok K = true) (h : cfB K (He.ga K x) = true) : CF K (He.ga K x) := by
  unfold cfB at h
  simp only [Bool.and_eq_true] at h
  exact ⟨He.cls_ok c, He.eqO_ok h.1, He.eqO_ok h.2.1, of_decide_eq_true h.2.2.1, of_decide_eq_true h.2.2.2⟩
theorem wd_ok {w' : World} {cl : ClT} {K : PySem.W.Frag} {tl : List (Str × He.Defn)} (h : ∀ q ∈ cl, CF K (He.ga K q.2.1)) : WdOk (wdOf w' cl K tl) := fun c C e => by
  have e : (cl.lookup c).map (fun q => He.ga K q.1) = some C := e
  rw [Option.map_eq_some_iff] at e
  obtain ⟨q, hq, rfl⟩ := e
  exact h _ (lookup_mem2 hq)
/-- the heap behind the law's start: the script alone -/
theorem start_hr {Y : Wd} {H : Hp} (tb : ∀ q a, Y.tb q = some a → TbAt ⟨[], []⟩ H a q) : HR Y ⟨[], []⟩ H [] := by
  constructor
  · rfl
  · exact List.Pairwise.nil
  · intro a ha; cases ha
  · intro a ha; cases ha
  · intro n o a h1 h2; simp at h1
  · exact fun q a e => ⟨⟨List.not_mem_nil, List.not_mem_nil⟩, tb q a e⟩
theorem ints_rps {Y : Wd} {ρ : Rh} {H : Hp} : ∀ ns : List Int, Rps Y ρ H (ns.map T.int) (ns.map V.int)
  | [] => .nil
  | x :: xs => .cons (.int x) (ints_rps xs)
end TL
set_option Elab.async false
set_option linter.all false
set_option maxRecDepth 100000
set_option maxHeartbeats 4000000
namespace TL
open PySem L2
theorem lcL_pure {rd : VH → Option (List T)} {g : MG} {c : MB} {e : ME} {τ : TS_} {h : VH} {ts : List T} (hrd : rd h = some ts) (p : T → Bool) (f : T → T) (hb : ∀ t ∈ ts, ∃ τ1, g t τ h = .ok τ1 h ∧ c τ1 h = .ok (p t) h ∧ (p t = true → e τ1 h = .ok (f t) h)) :
    ∀ (k i : Nat) (acc : List T), i + k = ts.length → lcL rd g c e τ ts.length k i acc h = .ok (acc ++ ((ts.drop i).filter p).map f) h := by
  intro k
  induction k with
  | zero =>
    intro i acc hi
    have : ts.drop i = [] := List.drop_eq_nil_of_le (by omega)
    rw [this]
    simp [lcL, hrd]
  | succ k ih =>
    intro i acc hi
    have hlt : i < ts.length := by omega
    have e1 : ts[i]? = some ts[i] := List.getElem?_eq_getElem hlt
    obtain ⟨τ1, h1, h2, h3⟩ := hb ts[i] (List.getElem_mem hlt)
    have hd : ts.drop i = ts[i] :: ts.drop (i + 1) := List.drop_eq_getElem_cons hlt
    cases hp : p ts[i] with
    | true =>
      have h3 := h3 hp
      rw [hp] at h2
      have z := ih (i + 1) (acc ++ [f ts[i]]) (by omega)
      simp only [lcL, hrd, e1, h1, h2, h3, if_true]
      rw [z, hd, List.filter_cons, if_pos hp, List.map_cons, List.append_assoc, List.singleton_append]
    | false =>
      rw [hp] at h2
      have z := ih (i + 1) acc (by omega)
      simp only [lcL, hrd, e1, h1, h2, if_true]
      rw [z, hd, List.filter_cons, if_neg (by rw [hp]; exact Bool.false_ne_true)]
theorem mLc_pure {mi : MI} {ws : List Nat} {g : MG} {c : MB} {e : ME} {τ : TS_} {h : VH} {rd : VH → Option (List T)} {ts : List T} (hm : mi τ h = .ok rd h) (hrd : rd h = some ts) (hl : ts.length ≤ 16777216) (p : T → Bool) (f : T → T)
    (hb : ∀ t ∈ ts, ∃ τ1, g t (wipeT τ ws) h = .ok τ1 h ∧ c τ1 h = .ok (p t) h ∧ (p t = true → e τ1 h = .ok (f t) h)) : mLc mi ws g c e τ h = .ok ((ts.filter p).map f) h := by
  have z := lcL_pure (τ := wipeT τ ws) hrd p f hb ts.length 0 [] (by omega)
  simp [mLc, hm, hrd, hl, z]
/-- without a test -/
theorem mLc_map {mi : MI} {ws : List Nat} {g : MG} {e : ME} {τ : TS_} {h : VH} {rd : VH → Option (List T)} {ts : List T} (hm : mi τ h = .ok rd h) (hrd : rd h = some ts) (hl : ts.length ≤ 16777216) (f : T → T)
    (hb : ∀ t ∈ ts, ∃ τ1, g t (wipeT τ ws) h = .ok τ1 h ∧ e τ1 h = .ok (f t) h) : mLc mi ws g bYes e τ h = .ok (ts.map f) h := by
  have z := mLc_pure (c := bYes) hm hrd hl (fun _ => true) f fun t ht => let ⟨τ1, a, b⟩ := hb t ht; ⟨τ1, a, rfl, fun _ => b⟩
  rw [z, List.filter_eq_self.mpr fun _ _ => rfl]
/-- a loop that goes on to its end, by an invariant -/
theorem forL_inv {rd : VH → Option (List T)} {g : MG} {body : MS} {ts : List T} (I : Nat → TS_ → VH → Prop) (hrd : ∀ i τ h, I i τ h → rd h = some ts)
    (step : ∀ i (hi : i < ts.length) τ h, I i τ h → ∃ τ1 h1 τ2 h2, g ts[i] τ h = .ok τ1 h1 ∧ (body τ1 h1 = .nx τ2 h2 ∨ body τ1 h1 = .ct τ2 h2) ∧ I (i + 1) τ2 h2) :
    ∀ (k i : Nat) τ h, i + k = ts.length → I i τ h → ∃ τ' h', forL rd g body ts.length k i τ h = .nx τ' h' ∧ I ts.length τ' h' := by
  intro k
  induction k with
  | zero =>
    intro i τ h hi hI
    have e : i = ts.length := by omega
    subst e
    exact ⟨τ, h, by simp [forL, hrd _ _ _ hI], hI⟩
  | succ k ih =>
    intro i τ h hi hI
    have hlt : i < ts.length := by omega
    have e1 : ts[i]? = some ts[i] := List.getElem?_eq_getElem hlt
    obtain ⟨τ1, h1, τ2, h2, a, b, c⟩ := step i hlt τ h hI
    obtain ⟨τ', h', q1, q2⟩ := ih (i + 1) τ2 h2 (by omega) c
    refine ⟨τ', h', ?_, q2⟩
    rcases b with b | b <;> simp [forL, hrd _ _ _ hI, e1, a, b, q1]
theorem sFor_inv {mi : MI} {g : MG} {body : MS} {τ : TS_} {h h1 : VH} {rd : VH → Option (List T)} {ts : List T} (I : Nat → TS_ → VH → Prop) (hm : mi τ h = .ok rd h1) (h0 : I 0 τ h1) (hrd : ∀ i τ h, I i τ h → rd h = some ts)
    (step : ∀ i (hi : i < ts.length) τ h, I i τ h → ∃ τ1 h1 τ2 h2, g ts[i] τ h = .ok τ1 h1 ∧ (body τ1 h1 = .nx τ2 h2 ∨ body τ1 h1 = .ct τ2 h2) ∧ I (i + 1) τ2 h2) :
    ∃ τ' h', sFor mi g body τ h = .nx τ' h' ∧ I ts.length τ' h' := by
  obtain ⟨τ', h', q1, q2⟩ := forL_inv I hrd step ts.length 0 τ h1 (by omega) h0
  exact ⟨τ', h', by simp [sFor, hm, hrd _ _ _ h0, q1], q2⟩
/-- a loop that goes on to its end or hands something back -/
theorem forL_or {rd : VH → Option (List T)} {g : MG} {body : MS} {ts : List T} (I : Nat → TS_ → VH → Prop) (R : T → VH → Prop) (hrd : ∀ i τ h, I i τ h → rd h = some ts)
    (step : ∀ i (hi : i < ts.length) τ h, I i τ h → ∃ τ1 h1, g ts[i] τ h = .ok τ1 h1 ∧ ((∃ τ2 h2, body τ1 h1 = .nx τ2 h2 ∧ I (i + 1) τ2 h2) ∨ ∃ t h2, body τ1 h1 = .rt t h2 ∧ R t h2)) :
    ∀ (k i : Nat) τ h, i + k = ts.length → I i τ h → (∃ τ' h', forL rd g body ts.length k i τ h = .nx τ' h' ∧ I ts.length τ' h') ∨ ∃ t h', forL rd g body ts.length k i τ h = .rt t h' ∧ R t h' := by
  intro k
  induction k with
  | zero =>
    intro i τ h hi hI
    have e : i = ts.length := by omega
    subst e
    exact .inl ⟨τ, h, by simp [forL, hrd _ _ _ hI], hI⟩
  | succ k ih =>
    intro i τ h hi hI
    have hlt : i < ts.length := by omega
    have e1 : ts[i]? = some ts[i] := List.getElem?_eq_getElem hlt
    obtain ⟨τ1, h1, a, b⟩ := step i hlt τ h hI
    rcases b with ⟨τ2, h2, b, c⟩ | ⟨t, h2, b, c⟩
    · rcases ih (i + 1) τ2 h2 (by omega) c with ⟨τ', h', q1, q2⟩ | ⟨t, h', q1, q2⟩
      · exact .inl ⟨τ', h', by simp [forL, hrd _ _ _ hI, e1, a, b, q1], q2⟩
      · exact .inr ⟨t, h', by simp [forL, hrd _ _ _ hI, e1, a, b, q1], q2⟩
    · exact .inr ⟨t, h2, by simp [forL, hrd _ _ _ hI, e1, a, b], c⟩
theorem sFor_or {mi : MI} {g : MG} {body : MS} {τ : TS_} {h h1 : VH} {rd : VH → Option (List T)} {ts : List T} (I : Nat → TS_ → VH → Prop) (R : T → VH → Prop) (hm : mi τ h = .ok rd h1) (h0 : I 0 τ h1) (hrd : ∀ i τ h, I i τ h → rd h = some ts)
    (step : ∀ i (hi : i < ts.length) τ h, I i τ h → ∃ τ1 h1, g ts[i] τ h = .ok τ1 h1 ∧ ((∃ τ2 h2, body τ1 h1 = .nx τ2 h2 ∧ I (i + 1) τ2 h2) ∨ ∃ t h2, body τ1 h1 = .rt t h2 ∧ R t h2)) :
    (∃ τ' h', sFor mi g body τ h = .nx τ' h' ∧ I ts.length τ' h') ∨ ∃ t h', sFor mi g body τ h = .rt t h' ∧ R t h' := by
  rcases forL_or I R hrd step ts.length 0 τ h1 (by omega) h0 with ⟨τ', h', q1, q2⟩ | ⟨t, h', q1, q2⟩
  · exact .inl ⟨τ', h', by simp [sFor, hm, hrd _ _ _ h0, q1], q2⟩
  · exact .inr ⟨t, h', by simp [sFor, hm, hrd _ _ _ h0, q1], q2⟩
theorem range_at {lo : Int} {n i : Nat} (hi : i < (rangeT lo n).length) : i < n ∧ (rangeT lo n)[i] = .int (lo + i) := by
  have hl : i < n := by simpa [rangeT] using hi
  exact ⟨hl, by simp [rangeT]⟩
theorem range_len (lo : Int) (n : Nat) : (rangeT lo n).length = n := by simp [rangeT]
theorem cut1 (xs : List T) : cutT xs (some 1) none = xs.drop 1 := by
  unfold cutT HT.sIx
  simp only [Option.getD]
  cases xs with
  | nil => simp
  | cons a r =>
    have e : (min (1 : Int) ((a :: r).length : Nat)).toNat = 1 := by simp only [List.length_cons]; omega
    simp
theorem seq_nx {f g : MS} {τ τ1 : TS_} {h h1 : VH} (e : f τ h = .nx τ1 h1) : sSeq f g τ h = g τ1 h1 := by unfold sSeq; rw [e]
theorem seq_rt {f g : MS} {τ : TS_} {h h1 : VH} {t : T} (e : f τ h = .rt t h1) : sSeq f g τ h = .rt t h1 := by unfold sSeq; rw [e]
theorem defM_rt {n p : Nat} {f : MS} {ts : List T} {h h' : VH} {t : T} (hl : ts.length = p) (e : f (startT n ts) h = .rt t h') : defM n p f ts h = .ok t h' := by unfold defM; rw [if_pos hl, e]
theorem set_ok {i : Nat} {f : ME} {τ : TS_} {h h1 : VH} {t : T} (e : f τ h = .ok t h1) : sSet i f τ h = .nx (τ.set i (some t)) h1 := by unfold sSet; rw [e]
theorem ret_ok {f : ME} {τ : TS_} {h h1 : VH} {t : T} (e : f τ h = .ok t h1) : sRet f τ h = .rt t h1 := by unfold sRet; rw [e]
theorem if_t {c : MB} {f g : MS} {τ : TS_} {h h1 : VH} (e : c τ h = .ok true h1) : sIf c f g τ h = f τ h1 := by unfold sIf; rw [e]
theorem if_f {c : MB} {f g : MS} {τ : TS_} {h h1 : VH} (e : c τ h = .ok false h1) : sIf c f g τ h = g τ h1 := by unfold sIf; rw [e]
theorem expr_ok {f : ME} {τ : TS_} {h h1 : VH} {t : T} (e : f τ h = .ok t h1) : sExpr f τ h = .nx τ h1 := by unfold sExpr; rw [e]
theorem call_ok {b : List T → VH → Res T} {g : MA} {τ : TS_} {h h1 : VH} {ts : List T} (e : g τ h = .ok ts h1) : eCall b g τ h = b ts h1 := by unfold eCall; rw [e]
theorem cons_ok {f : ME} {g : MA} {τ : TS_} {h h1 h2 : VH} {t : T} {ts : List T} (e : f τ h = .ok t h1) (e2 : g τ h1 = .ok ts h2) : aCons f g τ h = .ok (t :: ts) h2 := by unfold aCons; simp only [e, e2]
theorem op_ok {b : T → T → VH → Res T} {f g : ME} {τ : TS_} {h h1 h2 : VH} {t u : T} (e : f τ h = .ok t h1) (e2 : g τ h1 = .ok u h2) : eOp b f g τ h = b t u h2 := by unfold eOp; simp only [e, e2]
theorem test_ok {f : ME} {τ : TS_} {h h1 : VH} {b : Bool} (e : f τ h = .ok (.bl b) h1) : bTest f τ h = .ok b h1 := by unfold bTest; simp only [e]
theorem eL_ok {f : MA} {τ : TS_} {h h1 : VH} {ts : List T} (e : f τ h = .ok ts h1) : eL f τ h = .ok (.lst ts) h1 := by unfold eL; simp only [e]
theorem dat_int {h : VH} {k : Nat} {i : Int} : T.dat h k (.int i) = some (.int i) := by cases k <;> rfl
theorem dat_bl {h : VH} {k : Nat} {b : Bool} : T.dat h k (.bl b) = some (.bool b) := by cases k <;> rfl
theorem dat_str {h : VH} {k : Nat} {x : Str} : T.dat h k (.str x) = some (.str x) := by cases k <;> rfl
theorem dat_lst {h : VH} {k : Nat} {ts : List T} : T.dat h (k + 1) (.lst ts) = (ts.mapM (T.dat h k)).map .list := rfl
theorem mapM_some {α β : Type} {f : α → Option β} {g : α → β} : ∀ {l : List α}, (∀ a ∈ l, f a = some (g a)) → l.mapM f = some (l.map g)
  | [], _ => rfl
  | a :: l, h => by
    rw [List.mapM_cons, h a List.mem_cons_self, mapM_some fun b hb => h b (List.mem_cons_of_mem _ hb)]
    rfl
theorem intsOf_map : ∀ ns : List Int, intsOf (ns.map T.int) = some ns
  | [] => rfl
  | n :: ns => by simp [intsOf, intsOf_map ns]
theorem blsOf_map : ∀ ns : List Bool, blsOf (ns.map T.bl) = some ns
  | [] => rfl
  | n :: ns => by simp [blsOf, blsOf_map ns]
theorem strsOf_map : ∀ ns : List Str, strsOf (ns.map T.str) = some ns
  | [] => rfl
  | n :: ns => by simp [strsOf, strsOf_map ns]
theorem ix_nn {α : Type} {xs : List α} {i : Int} (h0 : 0 ≤ i) (h1 : i < xs.length) : atI xs i = xs[i.toNat]? := by
  unfold atI ixN
  rw [if_pos h0, if_pos h1]
  rfl
end TL
set_option Elab.async false
set_option linter.all false
set_option maxRecDepth 100000
set_option maxHeartbeats 4000000
namespace TL
open PySem PySem.Spec L2 PyProof.Rows
/-- the code that runs around shows nothing -/
abbrev Quiet (A : Around) : Prop := A.guards = some []
/-- what a def whose mirror is m gives, called where all is quiet -/
structure FnQ (P : Program) (w : World) (K : PySem.W.Frag) (mg : Str → Option Value) (base : Heap) (Y : Wd) (k : Nat) (f : Addr) (fd : FuncData) (ps : List Str) (m : List T → VH → Res T) : Prop where
  many : ∀ ts h t h', m ts h = .ok t h' → ts.length = ps.length
  goes : ∀ (A : Around), Quiet A → Room k A → ∀ (outer : List Env) (s : Shared) (H : Hp), Env0 P w K mg base A outer s H → ∀ (args : Args) (us : List Value) (vs : List V), BindsTo s fd args (ps.zip us) → Vals vs us →
    ∀ Q : VK, spM Y m vs H Q E0 → codeAny (model P w) A (.call (.ref f) args) (CR CX0 outer P w H s Q E0) s
section
variable {P : Program} {w : World} {K : PySem.W.Frag} {mg : Str → Option Value} {base : Heap} {Y : Wd} {k : Nat} {f : Addr} {fd : FuncData} {ps N : List Str} {m : List T → VH → Res T}
theorem spM_many {vs : List V} {H : Hp} {Q : VK} {E : XK} {n : Nat} (many : ∀ ts h t h', m ts h = .ok t h' → ts.length = n) (q : spM Y m vs H Q E) : vs.length = n :=
  let ⟨_, ts, h, t, h', r, _, e, _⟩ := q
  r.length.trans (many ts h t h' e)
/-- a promise that holds everywhere -/
theorem FnQ.of (F : FnOk P w K mg base CX0 k f fd ps (spM Y m)) (many : ∀ ts h t h', m ts h = .ok t h' → ts.length = ps.length) : FnQ P w K mg base Y k f fd ps m :=
  ⟨many, fun A _ hr outer s H e0 args us vs b r Q q => F.run A outer s H args us vs Q E0 hr e0 b r q⟩
theorem FnQ.cut (F : FnQ P w K mg base Y k f fd ps m) : FnQ P w K mg base Y k f fd ps (cutM m) where
  many ts h t h' e := by
    unfold cutM at e
    cases q : m ts h with
    | bad => rw [q] at e; cases e
    | ok u h1 => exact F.many _ _ _ _ q
  goes A hq hr outer s H e0 args us vs b r Q q := F.goes A hq hr outer s H e0 args us vs b r Q (spM_cut q)
theorem defM_many {n p : Nat} {g : MS} {ts : List T} {h h' : VH} {t : T} (e : defM n p g ts h = .ok t h') : ts.length = p := by
  unfold defM at e
  split at e
  · assumption
  · cases e
/-- how a body ends, told to who called -/
theorem ends_ok {N : List Str} {qual : Str} {scope : Scope} {cd : Value} {A : Around} {outer : List Env} {s s' : Shared} {H : Hp} {Q : VK} {r : Flow}
    (z : SP (cxOf CX0 P w K mg base N qual scope f cd A outer s H E0) [] { nx := fun _ H' => Q .non H', rt := Q } r s') : ∃ u, (match r with | .next => some Value.none | .ret u => some u | _ => none) = some u ∧ CE outer P w H s Q u s' := by
  cases r with
  | next => exact let ⟨_, H', J, q⟩ := z; ⟨_, rfl, .non, H', J.os, J.bare, J.base, J.hok, rfl, q⟩
  | ret u => exact let ⟨v, _, H', J, r, q⟩ := z; ⟨_, rfl, v, H', J.os, J.bare, J.base, J.hok, r, q⟩
  | brk => exact let ⟨_, _, _, q⟩ := z; q.elim
  | cont => exact let ⟨_, _, _, q⟩ := z; q.elim
/-- from a promise by the mirror to the reading of the body -/
theorem tms_start {N : List Str} {p : Nat} {g : MS} {vs : List V} {H : Hp} {Q : VK} (q : spM Y (defM N.length p g) vs H Q E0) : TMS Y g { nx := fun _ H' => Q .non H', rt := Q } (L2.start N vs) H := by
  obtain ⟨ρ, ts, h, t, h', r, hr, e, to⟩ := q
  have hl := defM_many e
  refine ⟨ρ, startT N.length ts, h, ⟨sl_start r, hr⟩, ?_⟩
  unfold defM at e
  rw [if_pos hl] at e
  cases z : g (startT N.length ts) h with
  | nx τ' h1 => rw [z] at e; cases e; exact fun ρ' H' σ' ev hr' _ => to.to ρ' H' .non ev hr' .non
  | rt u h1 => rw [z] at e; cases e; exact fun ρ' H' v ev hr' r' => to.to ρ' H' v ev hr' r'
  | bk τ' h1 => rw [z] at e; cases e
  | ct τ' h1 => rw [z] at e; cases e
  | bad => rw [z] at e; cases e
/-- the promise of such a def, by its body -/
theorem fnQ {x qual : Str} {params : Arguments} {body : List Stmt} {scope : Scope} {dvs : List V} {kws : List (Str × V)} {g : MS} (F : FunD K x qual params body scope dvs kws f fd) (S : FnScope N ps scope) (n p : Nat) (hn : N.length = n := by rfl) (hp : ps.length = p := by rfl)
    (hb : ∀ (cdv : Value) (A : Around) (outer : List Env) (s : Shared) (H : Hp) (E : XK), Quiet (A.deeper (envOfC qual scope s.heap.objs.size f cdv)) → Room k (A.deeper (envOfC qual scope s.heap.objs.size f cdv)) → PSs (cxOf CX0 P w K mg base N qual scope f cdv A outer s H E).nox body (TMS Y g)) :
    FnQ P w K mg base Y (k + 1) f fd ps (defM n p g) := by
  subst hn hp
  refine ⟨fun ts h t h' e => defM_many e, ?_⟩
  intro A quiet hr outer s H e0 args us vs bound r Q q
  have hl : vs.length = ps.length := spM_many (fun ts h t h' e => defM_many e) q
  obtain ⟨oc, od, dV, kV, doc, pm, an, cdv, ct, osl, rfl, lk, hcd, -⟩ := F.ex
  have older : ∀ b o, base.get? b = some o → s.heap.get? b = some o := fun b o e => (e0.bs b o e).1
  have KX := e0.mod.kin.keeps older
  refine codeAny_call_function hr.depth (KX f _ lk) rfl S.co S.gen rfl (PySem.W.codeRec_of KX hcd) (bound _ _ _ _ (wpAny_newFunctionEnv_cells S.kind ?kinds ?body))
  case kinds =>
    rintro ⟨nm, u⟩ hy
    have hy := (List.of_mem_zip hy).1
    exact (S.par nm hy).imp id fun c => ⟨c, PySem.W.cellsFrom_some _ _ _ (.inl c)⟩
  case body =>
    rintro _ rfl s1 inside
    have run := ((hb cdv A outer s H E0 quiet (hr.deeper _)).nox).run [] s1 (L2.start N vs) H _ (inv_start S hr.hd e0 hl r inside) (tms_start q)
    refine ⟨(e0.mod.nolimit.keeps older).keeps inside.toInCall.keep, codeAny_func (wpAny_mono run ?_ fun _ _ z => z)⟩
    intro fl s' z
    obtain ⟨u, eu, ce⟩ := ends_ok z
    cases fl <;> cases eu <;> exact ce
end
section
variable {X : Cx} {Y : Wd}
/-- such a def called by its name -/
theorem xCallQ {k : Nat} {f : Addr} {fd : FuncData} {ps : List Str} {m : List T → VH → Res T} {x : Str} {p pos : Pos} {e : Expr} {es : List Expr} {g : MA} (F : FnQ X.prog X.w X.K X.mg X.base Y k f fd ps m) (quiet : Quiet X.A) (hr : Room k X.A) (hg : Gl X x) (hm : X.mg x = some (.ref f)) (kp : PySem.W.keepIn X.K (.ref f) = true)
    (hb : Binds X.K fd ps []) (ha : PA X (e :: es) (TMA Y g)) (hdb : (x == ("__debug__" : Str)) = false := by decide) (he : starEach (e :: es) X.env = (false, eval e X.env) :: starEach es X.env := by rfl) (hpl : (backTo pos (starEach es X.env)).any (·.1) = false := by rfl) :
    PE X (.Call (.Name x p) (e :: es) [] pos) (TM Y (eCall m g)) := by
  constructor
  intro pins s σ H Q I q
  have args := ha.run pos pins s σ H _ I (tm_call (ct_sp (m := m) E0) q)
  refine wpAny_Call_Name_kw (ld_glob I hg hm (PySem.W.callWith_K (h₀ := X.base) I.mod.kin kp (thn args ?_) he hpl) hdb)
  rintro us s1 ⟨vs, H1, J, r, sp⟩
  have eu : us.length = ps.length := r.length.symm.trans (spM_many F.many sp)
  have bd := hb s1 us J.kIn (by rw [List.append_nil]; exact eu)
  rw [List.append_nil] at bd
  refine ⟨J.kIn, wpAny_call (codeAny_mono (F.goes X.A quiet hr X.stack s1 H1 J.env0 _ us vs bd r Q sp) ?_)⟩
  intro res s2 z
  match res, z with
  | .ok (.ret u), z => exact J.after z
  | .error v, z => exact z.elim
end
section
variable {X : Cx} {Y : Wd}
def rRepr (K : PySem.W.Frag) : List V → Hp → VK → Prop := fun vs H Q => ∃ x d, vs = [x] ∧ Dp K H x d ∧ d.showable = true ∧ d.hasDict = false ∧ d.depth ≤ 12 ∧ d.shown.length ≤ sizeLine ∧ Q (.str d.shown) H
theorem cr_repr (quiet : Quiet X.A) (room : X.A.units + 80 < cLine) : CallR X (.builtin "repr") (rRepr X.K) := by
  rintro pins s σ H _ us Q I r ⟨x, d, rfl, dp, sh, nd, dz, sz, q⟩
  match us, r with
  | [u], .cons rx .nil =>
    obtain ⟨as, rd⟩ := Dp.reads I d x u dp rx
    have fin : ∀ h' t tk, (∀ b o, s.heap.get? b = some o → h'.get? b = some o) → EP X pins σ Q (.str d.shown t) { s with heap := h', toks := tk } := fun h' t tk k => ⟨.str d.shown, H, I.kept k, ⟨t, rfl⟩, q⟩
    cases x with
    | ref b =>
      cases rx
      exact repr_of_reads' rd sh (fun e => by rw [nd] at e; cases e) quiet (by omega) (fun _ _ e => e) (fun h' t tk k => fin h' t tk k) sz
    | non => cases rx; cases dp; exact PySem.P.repr_of_none (fin s.heap _ _ fun _ _ e => e)
    | bl b => cases rx; cases dp; exact PySem.P.repr_of_bool (fin s.heap _ _ fun _ _ e => e)
    | int i => obtain ⟨t, rfl⟩ := rx; cases dp; exact PySem.P.repr_of_int (by simpa [PyData.showable] using sh) (fin s.heap _ _ fun _ _ e => e)
    | str z => obtain ⟨t, rfl⟩ := rx; cases dp; exact PySem.P.repr_of_str (fin s.heap _ _ fun _ _ e => e) sz
    | _ => cases dp
/-- repr(e) -/
def fRepr : List T → VH → Res T := fun ts h => match ts with
  | [t] => (match t.dat h 10 with
    | some d => if (d.showable && !d.hasDict && decide (d.shown.length ≤ 1000000)) = true then .ok (.str d.shown) h else .bad
    | none => .bad)
  | _ => .bad
theorem ct_repr : CT Y (rRepr Y.K) fRepr := fun ρ H ts vs h t h' Q r hr e to => by
  unfold fRepr at e
  split at e
  · rename_i u
    split at e
    · rename_i d ed
      split at e
      · rename_i c
        simp only [Bool.and_eq_true, Bool.not_eq_true', decide_eq_true_eq] at c
        cases e
        obtain ⟨v, rfl, rv⟩ := rps_one r
        obtain ⟨dp, _, dz⟩ := dat_ok hr _ _ _ _ rv ed
        exact ⟨v, d, rfl, dp, c.1.1, c.1.2, by omega, by rw [sizeLine_eq]; omega, to.to ρ H _ .refl hr (.str c.2)⟩
      · cases e
    · cases e
  · cases e
end
end TL
set_option Elab.async false
set_option linter.all false
set_option maxRecDepth 100000
set_option maxHeartbeats 4000000
namespace TL
open PySem PySem.Spec L2
def keyT : T → Option Key
  | .int i => some (.inl i)
  | .str z => some (.inr z)
  | _ => none
section
variable {Y : Wd} {ρ : Rh} {H : Hp}
theorem keyT_of {t : T} {k : Key} (r : Rp Y ρ H t (kV k)) : keyT t = some k := by
  cases k with
  | inl i => cases r; rfl
  | inr z => cases r; rfl
/-- pairs and what they stand for -/
inductive DR (Y : Wd) (ρ : Rh) (H : Hp) : List (T × T) → List (Key × V) → Prop
  | nil : DR Y ρ H [] []
  | cons {kt t : T} {k : Key} {v : V} {kvs : List (T × T)} {vk : List (Key × V)} : Rp Y ρ H kt (kV k) → Rp Y ρ H t v → DR Y ρ H kvs vk → DR Y ρ H ((kt, t) :: kvs) ((k, v) :: vk)
theorem DR.keys {kvs : List (T × T)} {vk : List (Key × V)} (d : DR Y ρ H kvs vk) : Rps Y ρ H (kvs.map (·.1)) (vk.map fun q => kV q.1) := by
  induction d with
  | nil => exact .nil
  | cons a b _ ih => exact .cons a ih
theorem DR.vals {kvs : List (T × T)} {vk : List (Key × V)} (d : DR Y ρ H kvs vk) : Rps Y ρ H (kvs.map (·.2)) (vk.map (·.2)) := by
  induction d with
  | nil => exact .nil
  | cons a b _ ih => exact .cons b ih
theorem DR.of : ∀ {kvs : List (T × T)} {vk : List (Key × V)}, Rps Y ρ H (kvs.map (·.1)) (vk.map fun q => kV q.1) → Rps Y ρ H (kvs.map (·.2)) (vk.map (·.2)) → DR Y ρ H kvs vk
  | [], [], _, _ => .nil
  | [], _ :: _, a, _ => by cases a
  | _ :: _, [], a, _ => by cases a
  | (_, _) :: _, (_, _) :: _, a, b => by
    cases a with
    | cons a1 a2 => cases b with
      | cons b1 b2 => exact .cons a1 b1 (DR.of a2 b2)
theorem DR.or {kvs : List (T × T)} {vk : List (Key × V)} {a : Addr} (d : DR Y ρ H kvs vk) (e : H a = some (.dK vk)) : OR Y ρ H a (.dct kvs) := ⟨vk, e, d.keys, d.vals⟩
theorem DR.length {kvs : List (T × T)} {vk : List (Key × V)} (d : DR Y ρ H kvs vk) : vk.length = kvs.length := by
  induction d with
  | nil => rfl
  | cons _ _ _ ih => simp [ih]
/-- what stands at a key -/
def getT (kvs : List (T × T)) (k : Key) : Option T := (kvs.find? fun q => decide (keyT q.1 = some k)).map (·.2)
def putT (kvs : List (T × T)) (k : Key) (kt v : T) : List (T × T) :=
  if (kvs.any fun q => decide (keyT q.1 = some k)) = true then kvs.map (fun q => if keyT q.1 = some k then (q.1, v) else q) else kvs ++ [(kt, v)]
theorem key_iff {kt : T} {k j : Key} (r : Rp Y ρ H kt (kV k)) : decide (keyT kt = some j) = decide (k = j) := by
  rw [keyT_of r]
  exact decide_eq_decide.mpr ⟨fun z => Option.some.inj z, fun z => by rw [z]⟩
theorem DR.get {kvs : List (T × T)} {vk : List (Key × V)} (d : DR Y ρ H kvs vk) (j : Key) : (getT kvs j = none ∧ valV vk j = none) ∨ ∃ t v, getT kvs j = some t ∧ valV vk j = some v ∧ Rp Y ρ H t v := by
  induction d with
  | nil => exact .inl ⟨rfl, rfl⟩
  | @cons kt t k v kvs vk a b d ih =>
    by_cases c : k = j
    · refine .inr ⟨t, v, ?_, valV_pos c, b⟩
      have := key_iff (j := j) a
      rw [decide_eq_true c] at this
      simp [getT, List.find?_cons, of_decide_eq_true this]
    · have e := key_iff (j := j) a
      rw [decide_eq_false c] at e
      rw [valV_neg c]
      have : getT ((kt, t) :: kvs) j = getT kvs j := by simp [getT, List.find?_cons, e]
      rw [this]
      exact ih
theorem DR.any {kvs : List (T × T)} {vk : List (Key × V)} (d : DR Y ρ H kvs vk) (j : Key) : (kvs.any fun q => decide (keyT q.1 = some j)) = vk.any fun q => decide (q.1 = j) := by
  induction d with
  | nil => rfl
  | cons a b d ih => simp only [List.any_cons, ih, key_iff a]
theorem DR.snoc {kvs : List (T × T)} {vk : List (Key × V)} (d : DR Y ρ H kvs vk) {kt t : T} {k : Key} {v : V} (a : Rp Y ρ H kt (kV k)) (b : Rp Y ρ H t v) : DR Y ρ H (kvs ++ [(kt, t)]) (vk ++ [(k, v)]) := by
  induction d with
  | nil => exact .cons a b .nil
  | cons a' b' _ ih => exact .cons a' b' ih
theorem DR.swap {kvs : List (T × T)} {vk : List (Key × V)} (d : DR Y ρ H kvs vk) {t : T} {k : Key} {v : V} (b : Rp Y ρ H t v) : DR Y ρ H (kvs.map fun q => if keyT q.1 = some k then (q.1, t) else q) (vk.map fun q => if q.1 = k then (q.1, v) else q) := by
  induction d with
  | nil => exact .nil
  | @cons kt' t' k' v' kvs vk a' b' d ih =>
    have e := key_iff (j := k) a'
    by_cases c : k' = k
    · rw [decide_eq_true c] at e
      simp only [List.map_cons, of_decide_eq_true e, c, if_true]
      exact .cons (c ▸ a') b ih
    · rw [decide_eq_false c] at e
      simp only [List.map_cons, of_decide_eq_false e, c, if_false]
      exact .cons a' b' ih
theorem DR.put {kvs : List (T × T)} {vk : List (Key × V)} (d : DR Y ρ H kvs vk) {kt t : T} {k : Key} {v : V} (a : Rp Y ρ H kt (kV k)) (b : Rp Y ρ H t v) : DR Y ρ H (putT kvs k kt t) (putK vk k v) := by
  unfold putT putK
  rw [d.any k]
  split
  · exact d.swap b
  · exact d.snoc a b
theorem DR.ev {ρ' : Rh} {H' : Hp} (e : EvR ρ H ρ' H') {kvs : List (T × T)} {vk : List (Key × V)} (d : DR Y ρ H kvs vk) : DR Y ρ' H' kvs vk := by
  induction d with
  | nil => exact .nil
  | cons a b _ ih => exact .cons (a.ev e) (b.ev e) ih
end
section
variable {X : Cx} {Y : Wd}
theorem DR.topush {ρ : Rh} {H : Hp} {p : Addr} {kvs : List (T × T)} {vk : List (Key × V)} (d : DR Y (ρ.ban p) H kvs vk) : DR Y (ρ.push p) H kvs vk := by
  induction d with
  | nil => exact .nil
  | cons a b _ ih => exact .cons a.topush b.topush ih
theorem DR.updb {ρ : Rh} {H : Hp} {p : Addr} {o : HO} (hp : p ∈ ρ.bn) {kvs : List (T × T)} {vk : List (Key × V)} (d : DR Y ρ H kvs vk) : DR Y ρ (upd H p o) kvs vk := by
  induction d with
  | nil => exact .nil
  | cons a b _ ih => exact .cons (a.updb hp) (b.updb hp) ih
/-- {} -/
def eDNew : ME := fun τ h => .ok (.ref h.length) (h ++ [.dct []])
theorem xDNew {pos : Pos} : PE X (.Dict [] [] pos) (TM Y eDNew) := pe_imp pe_dnewK fun σ H Q q => by
  obtain ⟨ρ, τ, h, u, h', G, e, to⟩ := q
  cases e
  intro p hp
  refine to.to (ρ.push p) _ _ (Ev.newρ hp) (G.hr.push hp (DR.nil.or upd_same)) (.ref ?_)
  show (ρ.ix ++ [p])[h.length]? = _
  rw [List.getElem?_append_right (by rw [G.hr.len]; exact Nat.le_refl _), G.hr.len]
  simp
end
end TL
set_option Elab.async false
set_option linter.all false
set_option maxRecDepth 100000
set_option maxHeartbeats 4000000
namespace TL
open PySem PySem.Spec L2 PyProof.Rows
def permL {α : Type} (ix : List Nat) (l : List α) : List α := ix.filterMap (l[·]?)
theorem Vals.perm {zs : List V} {ws : List Value} (r : Vals zs ws) : ∀ ix : List Nat, Vals (permL ix zs) (permL ix ws)
  | [] => .nil
  | i :: ix => by
    have ih := Vals.perm r ix
    unfold permL at ih ⊢
    simp only [List.filterMap_cons]
    cases e : zs[i]? with
    | none =>
      have := r.none_of e
      rw [this]
      exact ih
    | some z =>
      obtain ⟨u, e1, e2⟩ := r.get e
      rw [e1]
      exact .cons e2 ih
theorem Rps.perm {Y : Wd} {ρ : Rh} {H : Hp} {ts : List T} {vs : List V} (r : Rps Y ρ H ts vs) : ∀ ix : List Nat, Rps Y ρ H (permL ix ts) (permL ix vs)
  | [] => .nil
  | i :: ix => by
    have ih := Rps.perm r ix
    unfold permL at ih ⊢
    simp only [List.filterMap_cons]
    cases e : ts[i]? with
    | none =>
      have : vs[i]? = none := by
        rw [List.getElem?_eq_none_iff] at e ⊢
        rw [r.length]; exact e
      rw [this]
      exact ih
    | some t =>
      obtain ⟨v, e1, e2⟩ := r.get e
      rw [e1]
      exact .cons e2 ih
section
variable {X : Cx} {Y : Wd}
theorem xkNil : PK X [] (TMA Y aNil) := ⟨fun pos pins s σ H Q I q => by
  obtain ⟨ρ, τ, h, t, h', G, e, to⟩ := q
  cases e
  exact pk_nil.run pos pins s σ H Q I (to.to ρ H [] .refl G.hr .nil)⟩
theorem xkCons {nm : Option Str} {e : Expr} {kpos : Pos} {kws : List Keyword} {f : ME} {g : MA} (ha : PE X e (TM Y f)) (hr : PK X kws (TMA Y g)) : PK X (⟨nm, e, kpos⟩ :: kws) (TMA Y (aCons f g)) := ⟨fun pos pins s σ H Q I q => by
  refine (pk_cons ha hr).run pos pins s σ H Q I ?_
  obtain ⟨ρ, τ, h, u, h', G, e, to⟩ := q
  unfold aCons at e
  cases e1 : f τ h with
  | bad => simp only [e1] at e; cases e
  | ok t h1 =>
    simp only [e1] at e
    cases e2 : g τ h1 with
    | bad => simp only [e2] at e; cases e
    | ok ts h2 =>
      simp only [e2] at e
      cases e
      exact ⟨ρ, τ, h, t, h1, G, e1, ⟨fun ρ1 H1 v ev hr1 r => ⟨ρ1, τ, h1, _, _, G.ev ev hr1, e2, ⟨fun ρ2 H2 vs ev2 hr2 rs => to.to ρ2 H2 (v :: vs) (ev.trans ev2) hr2 (.cons (r.ev ev2.toEvR) rs)⟩⟩⟩⟩⟩
/-- the keywords' values, in the parameters' order -/
def aPerm (ix : List Nat) (g : MA) : MA := fun τ h => match g τ h with
  | .ok ts h1 => .ok (permL ix ts) h1
  | .bad => .bad
theorem tma_perm {ix : List Nat} {g : MA} {σ : St} {H : Hp} {R : List V → Hp → Prop} (q : TMA Y (aPerm ix g) σ H R) : TMA Y g σ H fun zs H1 => R (permL ix zs) H1 := by
  obtain ⟨ρ, τ, h, u, h', G, e, to⟩ := q
  unfold aPerm at e
  cases e1 : g τ h with
  | bad => rw [e1] at e; cases e
  | ok ts h1 =>
    rw [e1] at e
    cases e
    exact ⟨ρ, τ, h, ts, _, G, e1, ⟨fun ρ' H' zs ev hr rs => to.to ρ' H' _ ev hr (rs.perm ix)⟩⟩
/-- how keywords are bound where no parameter has a default -/
structure KwB (K : PySem.W.Frag) (fd : FuncData) (ps ks : List Str) (n : Nat) (ix : List Nat) : Prop where
  to : ∀ (s : Shared) (us ws : List Value), K.In s.heap → us.length = n → ws.length = ks.length → BindsTo s fd ⟨us, ks.zip ws⟩ (ps.zip (us ++ permL ix ws))
theorem kwB {K : PySem.W.Frag} {x qual : Str} {params : Arguments} {body : List Stmt} {scope : Scope} {kws : List (Str × V)} {f : Addr} {fd : FuncData} {ps ks : List Str} {n : Nat} {ix : List Nat} (F : FunD K x qual params body scope [] kws f fd)
    (h : ∀ (kV doc pm : Value) (an : Option Addr) (cdv ct : Value) (us ws : List Value), us.length = n → ws.length = ks.length → bindArgs (PySem.W.fnOf x qual params body scope .none kV doc pm an cdv ct) ⟨us, ks.zip ws⟩ = pure (ps.zip (us ++ permL ix ws))) : KwB K fd ps ks n ix := by
  obtain ⟨oc, od, dV, kV, doc, pm, an, cdv, ct, osl, rfl, _, _, hD, _⟩ := F.ex
  rcases hD with ⟨_, rfl⟩ | ⟨e, _⟩
  · exact ⟨fun s us ws _ l1 l2 => .of_eq (h kV doc pm an cdv ct us ws l1 l2)⟩
  · exact absurd rfl e
/-- how many values an argument list gives -/
theorem tma_len {g : MA} {n : Nat} (hg : ∀ τ h ts h', g τ h = .ok ts h' → ts.length = n) : ∀ σ H R, TMA Y g σ H R → TMA Y g σ H fun vs H' => vs.length = n ∧ R vs H' := by
  rintro σ H R ⟨ρ, τ, h, ts, h', G, e, to⟩
  exact ⟨ρ, τ, h, ts, h', G, e, ⟨fun ρ' H' vs ev hr rs => ⟨by rw [rs.length]; exact hg τ h ts h' e, to.to ρ' H' vs ev hr rs⟩⟩⟩
theorem len_nil : ∀ (τ : TS_) (h : VH) (ts : List T) (h' : VH), aNil τ h = .ok ts h' → ts.length = 0 := by
  intro τ h ts h' e; cases e; rfl
theorem len_cons {f : ME} {g : MA} {n : Nat} (hg : ∀ (τ : TS_) (h : VH) (ts : List T) (h' : VH), g τ h = .ok ts h' → ts.length = n) : ∀ (τ : TS_) (h : VH) (ts : List T) (h' : VH), aCons f g τ h = .ok ts h' → ts.length = n + 1 := by
  intro τ h ts h' e
  unfold aCons at e
  cases e1 : f τ h with
  | bad => simp only [e1] at e; cases e
  | ok t h1 =>
    simp only [e1] at e
    cases e2 : g τ h1 with
    | bad => simp only [e2] at e; cases e
    | ok us h2 => simp only [e2] at e; cases e; simp [hg _ _ _ _ e2]
end
end TL
set_option Elab.async false
set_option linter.all false
set_option maxRecDepth 100000
set_option maxHeartbeats 4000000
namespace TL
open PySem PySem.Spec L2
section
variable {X : Cx} {Y : Wd}
def timesS (z : Str) (k : Nat) : Str := ⟨(List.replicate k z.cps).foldl (· ++ ·) #[]⟩
def rMulS : R2 := fun x y H Q => ∃ (z : Str) (k : Int), x = .str z ∧ y = .int k ∧ 2 ≤ k ∧ k ≤ 1000 ∧ 0 < z.length ∧ z.length * k.toNat ≤ 1000000 ∧ (timesS z k.toNat).length ≤ 1000000 ∧ Q (.str (timesS z k.toNat)) H
theorem op_mulS : OpR X (binaryOp .Mult) rMulS := by
  rintro pins s σ H x y v u Q I rx ry ⟨z, k, rfl, rfl, k2, k3, z0, zk, sz, q⟩
  obtain ⟨t, rfl⟩ := rx
  obtain ⟨t', rfl⟩ := ry
  have big : ¬ k < 1 := by omega
  have f1 : (k == 1 || z.length == 0) = false := by
    rw [Bool.or_eq_false_iff]
    exact ⟨beq_eq_false_iff_ne.mpr (by omega), beq_eq_false_iff_ne.mpr (by omega)⟩
  refine PySem.P.mul_str ?_ (fun _ _ => ?_) (fun _ _ => ?_) ?_
  · rw [decide_eq_false (by omega), decide_eq_false (by omega)]
    rfl
  · have h1 : (z.length : Int) ≤ 1000000 := by
      have : z.length * 1 ≤ z.length * k.toNat := Nat.mul_le_mul_left _ (by omega)
      omega
    have h2 : (1000000 : Int) ≤ (2 ^ 63 - 1) / k := by
      rw [Int.le_ediv_iff_mul_le (by omega)]
      omega
    omega
  · exact decide_eq_false (by rw [sizeLine_eq]; omega)
  · rw [if_neg big, if_neg (by rw [f1]; exact Bool.false_ne_true)]
    exact ⟨by rw [sizeLine_eq]; exact Nat.le_trans sz (by omega), .str (timesS z k.toNat), H, I.tok _, ⟨_, rfl⟩, q⟩
def bMulS (a b : T) (h : VH) : Res T := match a, b with
  | .str z, .int k => if ((2 ≤ k ∧ k ≤ 1000) ∧ 0 < z.length) ∧ (z.length * k.toNat ≤ 1000000 ∧ (timesS z k.toNat).length ≤ 1000000) then .ok (.str (timesS z k.toNat)) h else .bad
  | _, _ => .bad
theorem ot_mulS : OT Y rMulS bMulS := fun ρ H t1 t2 v1 v2 h t h' Q r1 r2 hr e to => by
  unfold bMulS at e
  split at e
  · split at e
    · rename_i z k c
      cases e
      cases r1
      cases r2
      exact ⟨z, k, rfl, rfl, c.1.1.1, c.1.1.2, c.1.2, c.2.1, c.2.2, to.to ρ H _ .refl hr (.str c.2.2)⟩
    · cases e
  · cases e
end
end TL
set_option Elab.async false
set_option linter.all false
set_option maxRecDepth 100000
set_option maxHeartbeats 4000000
namespace TL
open PySem PySem.Spec L2
mutual
def wide : PyData → Nat
  | .none => 4
  | .bool _ => 5
  | .int i => i.natAbs.log2 + 2
  | .str x => (reprText x).length
  | .list xs => wides xs + 2
  | .tuple xs => wides xs + 3
  | .dict _ => 0
def wides : List PyData → Nat
  | [] => 0
  | x :: xs => wide x + 2 + wides xs
end
def lens (ts : List Str) : Nat := (ts.map fun t => t.length + 2).sum
theorem textFrom_le : ∀ (ts : List Str) (k : Nat) (acc : Str), (textFrom k acc ts).length ≤ acc.length + lens ts
  | [], k, acc => by simp [textFrom, lens]
  | t :: ts, k, acc => by
    have ih := textFrom_le ts (k + 1) (acc ++ (if k > 0 then ", " else "" : String) ++ t)
    have e : (acc ++ (if k > 0 then ", " else "" : String) ++ t).length ≤ acc.length + 2 + t.length := by
      rw [len_app, len_app]
      have : (Str.ofString (if k > 0 then ", " else "")).length ≤ 2 := by split <;> decide
      omega
    have l : lens (t :: ts) = t.length + 2 + lens ts := by simp [lens]
    rw [l]
    show (textFrom (k + 1) _ ts).length ≤ _
    omega
theorem listText_le (ts : List Str) : (listText ts).length ≤ lens ts + 2 := by
  unfold listText
  rw [len_app]
  have h := textFrom_le ts 0 "["
  have a : (Str.ofString "[").length = 1 := by decide
  have b : (Str.ofString "]").length = 1 := by decide
  omega
theorem join_le : ∀ ts : List Str, (Str.join ", " ts).length ≤ lens ts
  | [] => by decide
  | [x] => by simp [lens, Str.join]
  | x :: y :: r => by
    have ih := join_le (y :: r)
    have l : lens (x :: y :: r) = x.length + 2 + lens (y :: r) := by simp [lens]
    have e : Str.join ", " (x :: y :: r) = x ++ ", " ++ Str.join ", " (y :: r) := rfl
    rw [l, e, len_app, len_app]
    have : ((", " : String) : Str).length = 2 := by decide
    omega
theorem tupleText_le (ts : List Str) : (tupleText ts).length ≤ lens ts + 3 := by
  unfold tupleText
  rw [len_app, len_app]
  have h := join_le ts
  have a : (Str.ofString "(").length = 1 := by decide
  have b : (Str.ofString (if (ts.length == 1) = true then ",)" else ")")).length ≤ 2 := by split <;> decide
  omega
mutual
theorem shown_le : ∀ d : PyData, d.hasDict = false → d.shown.length ≤ wide d
  | .none, _ => by decide
  | .bool true, _ => by decide
  | .bool false, _ => by decide
  | .int i, _ => by
    have := int_text_length_le (a := i) (k := i.natAbs.log2 + 1) (by omega) (by omega)
    simp only [PyData.shown, wide]
    rw [ofString_length]
    omega
  | .str x, _ => by simp only [PyData.shown, wide]; exact Nat.le_refl _
  | .list xs, h => by
    have := shownAll_le xs (by simpa [PyData.hasDict] using h)
    have := listText_le (PyData.shownAll xs)
    simp only [PyData.shown, wide]
    omega
  | .tuple xs, h => by
    have := shownAll_le xs (by simpa [PyData.hasDict] using h)
    have := tupleText_le (PyData.shownAll xs)
    simp only [PyData.shown, wide]
    omega
  | .dict kvs, h => by simp [PyData.hasDict] at h
theorem shownAll_le : ∀ ds : List PyData, PyData.hasDictAll ds = false → lens (PyData.shownAll ds) ≤ wides ds
  | [], _ => by simp [PyData.shownAll, lens, wides]
  | d :: ds, h => by
    simp only [PyData.hasDictAll, Bool.or_eq_false_iff] at h
    have a := shown_le d h.1
    have b := shownAll_le ds h.2
    have l : lens (PyData.shownAll (d :: ds)) = d.shown.length + 2 + lens (PyData.shownAll ds) := by simp [lens, PyData.shownAll]
    rw [l]
    simp only [wides]
    omega
end
theorem repr_ok {t : T} {h : VH} {d : PyData} (e : T.dat h 10 t = some d) (s : d.showable = true) (n : d.hasDict = false) (w : wide d ≤ 1000000) : fRepr [t] h = .ok (.str d.shown) h := by
  have := shown_le d n
  simp only [fRepr, e, s, n, Bool.not_false, Bool.and_true, Bool.true_and]
  rw [if_pos (decide_eq_true (by omega))]
theorem eq_strs (x y : Str) (h : VH) : TL.bEq (.str x) (.str y) h = .ok (.bl (x == y)) h := by
  unfold TL.bEq bEqG
  simp only [dat_str, PyData.eqv]
theorem ne_strs (x y : Str) (h : VH) : bNe (.str x) (.str y) h = .ok (.bl (!(x == y))) h := by
  unfold bNe bEqG
  simp only [dat_str, PyData.eqv]
end TL
set_option Elab.async false
set_option linter.all false
set_option maxRecDepth 100000
set_option maxHeartbeats 4000000
namespace TL
open PySem PySem.Spec L2
end TL
set_option Elab.async false
set_option linter.all false
set_option maxRecDepth 100000
set_option maxHeartbeats 4000000
namespace TL
open PySem PySem.Spec L2
open PySem.W (alike AllAlike Sortable dataLe EachIs)
end TL
set_option Elab.async false
set_option linter.all false
set_option maxRecDepth 100000
set_option maxHeartbeats 4000000
namespace TL
open PySem PySem.Spec L2
section
variable {X : Cx} {Y : Wd}
def eProp (c : Nat) (m : List T → VH → Res T) (f : ME) : ME := fun τ h => match f τ h with
  | .ok o h1 => (match getI h1 o with
    | some (c', _) => if c' = c then m [o] h1 else .bad
    | none => .bad)
  | .bad => .bad
theorem xProp {c k : Nat} {C p g : Addr} {fd : FuncData} {ps : List Str} {m : List T → VH → Res T} {e : Expr} {f : Str} {t : ME} {pos : Pos} (hK : X.K = Y.K) (hc : Y.cm c = some C) (cl : Cls Y.K C) (hp : PropOf Y.K C f p g) (F : FnOk X.prog X.w X.K X.mg X.base CX0 k g fd ps (spM Y m)) (hr : Room (k + 1) X.A) (hb : Binds X.K fd ps [])
    (he : PE X e (TM Y t)) (hab : attributeBase e f X.env (eval e X.env) = eval e X.env := by rfl) : PE X (.Attribute e f pos) (TM Y (eProp c m t)) := pe_imp (pe_prop he (hK ▸ cl) (hK ▸ hp) F hr hb .nil pass0 hab) fun σ H Q q => by
  obtain ⟨ρ, τ, h, u, h', G, e, to⟩ := q
  unfold eProp at e
  cases e1 : t τ h with
  | bad => simp only [e1] at e; cases e
  | ok o h1 =>
    simp only [e1] at e
    split at e
    · rename_i c' fs eo
      split at e
      · rename_i ec
        subst ec
        refine ⟨ρ, τ, h, o, _, G, e1, ⟨fun ρ1 H1 v ev hr1 r => ?_⟩⟩
        obtain ⟨a, C', dx, vfs, rfl, hc', ha, hm, rs⟩ := getI_ok r hr1 eo
        rw [hc] at hc'
        cases hc'
        exact ⟨a, dx, vfs, rfl, ha, ρ1, [o], h1, u, h', .cons r .nil, hr1, e, ⟨fun ρ' H' v ev' hr' r' => to.to ρ' H' v (ev.trans ev') hr' r'⟩⟩
      · cases e
    · cases e
end
end TL
set_option Elab.async false
set_option linter.all false
set_option maxRecDepth 100000
set_option maxHeartbeats 4000000
namespace TL
open PySem PySem.Spec L2
end TL
set_option Elab.async false
set_option linter.all false
set_option maxRecDepth 100000
set_option maxHeartbeats 4000000
namespace TL
open PySem PySem.Spec L2
def pAd (K : PySem.W.Frag) (C f : Str) : Addr := He.ma K (He.ga K C) f
def gAd (K : PySem.W.Frag) (C f : Str) : Addr := match PySem.W.recIn K (pAd K C f) "property" with
  | some (.ref g :: _) => g
  | _ => 0
structure PrD where
  cls : Str
  f : Str
  qual : Str
  params : Arguments
  body : List Stmt
  scope : Scope
abbrev FnV : Type := Option (Str × Str × Arguments × FuncBody × Scope × Addr × List (Str × Addr) × Addr)
def prW (K : PySem.W.Frag) (d : PrD) : FnV := match K.lookup (gAd K d.cls d.f) with
  | some ⟨_, _, .func q, _⟩ => some (q.name, q.qualname, q.params, q.body, q.scope, q.globals, q.closure, q.builtins)
  | _ => none
def PrD.val (d : PrD) : FnV := some (d.f, d.qual, d.params, .stmts d.body, d.scope, mainGlobals, [], builtinsNs)
/-- what is asked of the function at the getter's address -/
def gfB (K : PySem.W.Frag) (qual : Str) (g : Addr) : Bool := match K.lookup g with
  | some ⟨_, _, .func q, _⟩ => PySem.W.codeIn K q.code qual && (He.dflB K q.defaults [] && He.kwdB K q.kwdefaults [])
  | _ => false
def firstRef : Option (List Value) → Option Addr
  | some (.ref g :: _) => some g
  | _ => none
def prB (K : PySem.W.Frag) (d : PrD) : Bool :=
  PySem.W.keepIn K (.ref (gAd K d.cls d.f)) && (gfB K d.qual (gAd K d.cls d.f) &&
  (He.eqO (PySem.W.findIn K (.ref (He.ga K d.cls)) d.f) (some (some (.ref (pAd K d.cls d.f)))) &&
  (He.eqO (PySem.W.specialIn K (.ref (pAd K d.cls d.f)) "__get__") (some (some (.builtin "property.__get__"))) &&
  (decide (PySem.W.takesIn K (.ref (pAd K d.cls d.f)) = some true) &&
  decide (firstRef (PySem.W.recIn K (pAd K d.cls d.f) "property") = some (gAd K d.cls d.f))))))
theorem pr_ok {K : PySem.W.Frag} {d : PrD} (e : prW K d = d.val) (b : prB K d = true) : (∃ fd, FunD K d.f d.qual d.params d.body d.scope [] [] (gAd K d.cls d.f) fd) ∧ PropOf K (He.ga K d.cls) d.f (pAd K d.cls d.f) (gAd K d.cls d.f) := by
  unfold prB at b
  simp only [Bool.and_eq_true, decide_eq_true_eq] at b
  obtain ⟨kp, gf, b1, b2, b3, b4⟩ := b
  refine ⟨?_, He.eqO_ok b1, He.eqO_ok b2, b3, ?_⟩
  · obtain ⟨g, hg⟩ : ∃ g, g = gAd K d.cls d.f := ⟨_, rfl⟩
    unfold prW at e
    rw [← hg] at kp gf e ⊢
    unfold gfB at gf
    split at gf
    · rename_i oc od q osl lk
      simp only [lk] at e
      rw [Bool.and_eq_true, Bool.and_eq_true] at gf
      obtain ⟨cd, df, kd⟩ := gf
      rcases q with ⟨x, ql, pa, bo, sc, gl, cl, dV, kV, doc, pm, an, co, ct, bu⟩
      simp only [PrD.val, Option.some.injEq, Prod.mk.injEq] at e
      obtain ⟨rfl, rfl, rfl, rfl, rfl, rfl, rfl, rfl⟩ := e
      exact ⟨_, ⟨oc, od, dV, kV, doc, pm, an, co, ct, osl, rfl, lk, cd, He.dflB_ok df, He.kwdB_ok kd⟩, kp⟩
    · cases gf
  · unfold firstRef at b4
    split at b4
    · rename_i g' rest q
      cases b4
      exact ⟨rest, q⟩
    · cases b4
/-- the hook -/
def obsP (n : Nat) (fa : List He.Fa) (fn : List He.DefD) (ts : List He.Tab) (tf : List He.Defn) (ex : PySem.W.Frag → Bool) (ps : List PrD) (g : Addr → Option Obj) : He.AlX × List FnV := (He.obsX n fa fn ts tf ex g, ps.map (prW (He.frT g (He.asD g n))))
def hookP (n : Nat) (fa : List He.Fa) (fn : List He.DefD) (ts : List He.Tab) (tf : List He.Defn) (ex : PySem.W.Frag → Bool) (ps : List PrD) : PySem.W.Hook where
  α := He.AlX × List FnV
  obs := fun s => obsP n fa fn ts tf ex ps s.heap.get?
  val := fun w => (He.valX fn ts w, ps.map PrD.val)
  says := fun w h => ∃ K : PySem.W.Frag, K.In h ∧ He.SaysX fa fn ts tf ex w h K ∧ ps.map (prW K) = ps.map PrD.val
  of := fun _ _ e => ⟨_, He.frT_in, He.saysX_of (congrArg Prod.fst e), congrArg Prod.snd e⟩
  keeps := fun _ _ _ ⟨K, i, c, q⟩ k => ⟨K, i.keeps k, ⟨c.t, c.more, c.hd, c.out, fun p hp => k _ _ (c.empty p hp)⟩, q⟩
theorem obsP_eq {n : Nat} {fa : List He.Fa} {fn : List He.DefD} {ts : List He.Tab} {tf : List He.Defn} {ex : PySem.W.Frag → Bool} {ps : List PrD} {g : Addr → Option Obj} {s : Shared} (h : ∀ a, g a = s.heap.get? a) : obsP n fa fn ts tf ex ps g = (hookP n fa fn ts tf ex ps).obs s := by
  obtain rfl : g = s.heap.get? := funext h
  rfl
theorem pr_at {K : PySem.W.Frag} {ps : List PrD} (h : ps.map (prW K) = ps.map PrD.val) {i : Nat} {d : PrD} (e : ps[i]? = some d) : prW K d = d.val := by
  have z := congrArg (fun l => l[i]?) h
  simp only [List.getElem?_map, e, Option.map_some] at z
  exact Option.some.inj z
end TL
set_option Elab.async false
set_option linter.all false
set_option maxRecDepth 100000
set_option maxHeartbeats 4000000
namespace TL
open PySem PySem.Spec L2
end TL
set_option Elab.async false
set_option linter.all false
set_option maxRecDepth 100000
set_option maxHeartbeats 4000000
namespace TL
open PySem PySem.Spec L2 PyProof.Rows
open AutoSeq1 (wpAny_loadPart')
/-- where it stands -/
structure AtT (e it t : Addr) (n i : Nat) (h : Heap) : Prop where
  en : ∃ last, IsEnum h e it (i : Int) last
  ti : h.IsTupleIter it t i
  ne : e ≠ it
  n1 : t ≠ it
  n2 : t ≠ e
  le : i ≤ n
section
variable {P : Program} {w : World} {K : PySem.W.Frag} {e it t : Addr}
theorem AtT.there {n i : Nat} {h : Heap} (a : AtT e it t n i h) {b : Addr} (m : b ∈ [e, it]) : ∃ o, h.get? b = some o ∧ ∀ v, o.data ≠ .cell v := by
  rcases List.mem_cons.mp m with rfl | m
  · obtain ⟨l, q⟩ := a.en
    exact ⟨_, q, nofun⟩
  · obtain rfl := List.mem_singleton.mp m
    obtain ⟨o, q, _, d⟩ := a.ti
    exact ⟨o, q, fun v y => by rw [d] at y; cases y⟩
end
end TL
set_option Elab.async false
set_option linter.all false
set_option maxRecDepth 100000
set_option maxHeartbeats 4000000
namespace K33
open PySem L2 TL
def kv_AHEAD : List (Str × T) := [("e", (.str "6")), ("n", (.str "8")), ("a", (.str "9")), ("b", (.str "7"))]
def kv_SHIFTS : List (Str × T) := [("6", (.tup [(.int (1)), (.int (0))])), ("4", (.tup [(.int (-1)), (.int (0))])), ("8", (.tup [(.int (0)), (.int (1))])), ("2", (.tup [(.int (0)), (.int (-1))])), ("9", (.tup [(.int (1)), (.int (1))])), ("1", (.tup [(.int (-1)), (.int (-1))])), ("7", (.tup [(.int (-1)), (.int (1))])), ("3", (.tup [(.int (1)), (.int (-1))]))]
def s_figure_at : MS := (sSeq (sSet 3 (eOp bIx (eFld 2 1 (eVar 0)) (eOp bMod (eVar 2) (eCall fLen (aCons (eFld 2 1 (eVar 0)) aNil)))))
  (sRet (eOp bIx (eVar 3) (eOp bMod (eVar 1) (eCall fLen (aCons (eVar 3) aNil))))))
def m_figure_at : List T → VH → Res T := defM 4 3 s_figure_at
def s_first_wrong : MS := (sSeq (sFor (iEnumM (aCons (eFld 2 1 (eVar 0)) aNil)) (mgTup 2 (mgsCons (mgName 1) (mgsCons (mgName 2) mgsNil))) (sFor (iEnumSM (aCons (eVar 2) aNil)) (mgTup 2 (mgsCons (mgName 3) (mgsCons (mgName 4) mgsNil))) (sIf (bTest (eOp bNe (eVar 4) (eK (.str "0")))) (sSeq (sSet 5 (eIxK kv_SHIFTS (eVar 4)))
  (sIf (bTest (eOp bNe (eOp bAdd (eCall fInt (aCons (eCall m_figure_at (aCons (eVar 0) (aCons (eOp bAdd (eVar 3) (eOp bIx (eVar 5) (eK (.int 0)))) (aCons (eOp bAdd (eVar 1) (eOp bIx (eVar 5) (eK (.int 1)))) aNil)))) aNil)) (eCall fInt (aCons (eVar 4) aNil))) (eK (.int 10)))) (sRet (eTup (aCons (eVar 3) (aCons (eVar 1) aNil)))) sNil)) sNil)))
  (sRet (eK .non)))
def m_first_wrong : List T → VH → Res T := defM 6 1 s_first_wrong
def s_rows_in : MS := (sSeq (sSet 1 (eIf (bTest (eIsi (.b "str") (eVar 0))) (eMt "str" mSplit (eVar 0) (aCons (eK (.str "/")) aNil)) (eL (aLim aNil))))
  (sSeq (sIf (bOr (bNot (bTest (eChain bLe bLe (eK (.int 1)) (eCall fLen (aCons (eVar 1) aNil)) (eK (.int 12))))) (bNot (bTest (eChain bLe bLe (eK (.int 1)) (eCall fLen (aCons (eOp bIx (eVar 1) (eK (.int 0))) aNil)) (eK (.int 12)))))) (sRet (eK .non)) sNil)
  (sSeq (sIf (bNot (bTest (eCall fAll (aCons (eL (mLc (iSeqC (eVar 1)) [2] (mgName 2) bYes (eAnd (eOp bEq (eCall fLen (aCons (eVar 2) aNil)) (eCall fLen (aCons (eOp bIx (eVar 1) (eK (.int 0))) aNil))) (eCall fAll (aCons (eL (mLc (iSeqC (eVar 2)) [3] (mgName 3) bYes (eOp bIn (eVar 3) (eK (.str "012346789"))))) aNil))))) aNil)))) (sRet (eK .non)) sNil)
  (sRet (eRev (eVar 1))))))
def m_rows_in : List T → VH → Res T := defM 4 1 s_rows_in
def s_Pattern___init__ : MS := (sSeq (sSet 2 (eCall m_rows_in (aCons (eVar 1) aNil)))
  (sSeq (sIf (bTest (eOp bIs (eVar 2) (eK .non))) sBad sNil)
  (sSeq (sAsg (eTup (aCons (eVar 1) (aCons (eVar 2) aNil))) (mgTup 2 (mgsCons (mgFld 2 0 (eVar 0)) (mgsCons (mgFld 2 1 (eVar 0)) mgsNil))))
  (sSeq (sSet 3 (eCall m_first_wrong (aCons (eVar 0) aNil)))
  (sIf (bTest (eOp bIsn (eVar 3) (eK .non))) sBad sNil)))))
def m_Pattern___init__ : List T → VH → Res T := defM 4 2 s_Pattern___init__
def s_law_at : MS := (sRet (eOp bIx (eOp bIx (eVar 0) (eOp bMod (eCall fInt (aCons (eVar 2) aNil)) (eCall fLen (aCons (eVar 0) aNil)))) (eOp bMod (eCall fInt (aCons (eVar 1) aNil)) (eCall fLen (aCons (eOp bIx (eVar 0) (eK (.int 0))) aNil)))))
def m_law_at : List T → VH → Res T := defM 3 3 s_law_at
def s_law_begun : MS := (sSeq (sAsg (eTup (aCons (eCall fLen (aCons (eOp bIx (eVar 0) (eK (.int 0))) aNil)) (aCons (eCall fLen (aCons (eVar 0) aNil)) aNil))) (mgTup 2 (mgsCons (mgName 3) (mgsCons (mgName 4) mgsNil))))
  (sRet (eL (mLc (iRange1 (aCons (eVar 4) aNil)) [5] (mgName 5) bYes (eL (mLc (iRange1 (aCons (eVar 3) aNil)) [6] (mgName 6) bYes (eCall m_law_at (aCons (eVar 0) (aCons (eOp bAdd (eVar 1) (eVar 6)) (aCons (eOp bAdd (eVar 2) (eVar 5)) aNil))))))))))
def m_law_begun : List T → VH → Res T := defM 7 3 s_law_begun
def s_law_roll : MS := (sSeq (sAsg (eOp bAdd (eOp bIx (eVar 0) (eK (.int 2))) (eK (.int 1))) (mgSub bSetL (eVar 0) (eK (.int 2))))
  (sSeq (sIf (bTest (eOp bGt (eOp bIx (eVar 0) (eK (.int 0))) (eK (.int 0)))) (sSeq (sAsg (eCall fDivmod (aCons (eOp bIx (eVar 0) (eK (.int 0))) (aCons (eVar 1) aNil))) (mgTup 2 (mgsCons (mgSub bSetL (eVar 0) (eK (.int 0))) (mgsCons (mgName 2) mgsNil))))
  (sRet (eVar 2))) sNil)
  (sSeq (sSet 3 (eCall fInt (aCons (eOp bIx (eVar 0) (eK (.int 1))) aNil)))
  (sSeq (sAsg (eOp bMod (eCall fInt (aCons (eOp bAdd (eOp bMul (eVar 3) (eOp bAdd (eVar 3) (eK (.int 50021)))) (eOp bMul (eK (.int 91229)) (eOp bIx (eVar 0) (eK (.int 2))))) aNil)) (eK (.int 2147483543))) (mgSub bSetL (eVar 0) (eK (.int 1))))
  (sRet (eOp bMod (eCall fInt (aCons (eOp bFdv (eOp bIx (eVar 0) (eK (.int 1))) (eK (.int 128))) aNil)) (eVar 1)))))))
def m_law_roll : List T → VH → Res T := defM 4 2 s_law_roll
def s_law_pick : MS := (sRet (eOp bIx (eVar 1) (eCall m_law_roll (aCons (eVar 0) (aCons (eCall fLen (aCons (eVar 1) aNil)) aNil)))))
def m_law_pick : List T → VH → Res T := defM 2 2 s_law_pick
def s_law_shift : MS := (sRet (eOp bIx (eL (aLim (aCons (eTup (aCons (eK (.int 0)) (aCons (eK (.int 0)) aNil))) (aCons (eTup (aCons (eNeg (eK (.int 1))) (aCons (eNeg (eK (.int 1))) aNil))) (aCons (eTup (aCons (eK (.int 0)) (aCons (eNeg (eK (.int 1))) aNil))) (aCons (eTup (aCons (eK (.int 1)) (aCons (eNeg (eK (.int 1))) aNil))) (aCons (eTup (aCons (eNeg (eK (.int 1))) (aCons (eK (.int 0)) aNil))) (aCons (eTup (aCons (eK (.int 0)) (aCons (eK (.int 0)) aNil))) (aCons (eTup (aCons (eK (.int 1)) (aCons (eK (.int 0)) aNil))) (aCons (eTup (aCons (eNeg (eK (.int 1))) (aCons (eK (.int 1)) aNil))) (aCons (eTup (aCons (eK (.int 0)) (aCons (eK (.int 1)) aNil))) (aCons (eTup (aCons (eK (.int 1)) (aCons (eK (.int 1)) aNil))) aNil)))))))))))) (eVar 0)))
def m_law_shift : List T → VH → Res T := defM 1 1 s_law_shift
def s_law_grid : MS := (sSeq (sAsg (eTup (aCons (eOp bAdd (eK (.int 1)) (eCall m_law_roll (aCons (eVar 0) (aCons (eVar 1) aNil)))) (aCons (eOp bAdd (eK (.int 1)) (eCall m_law_roll (aCons (eVar 0) (aCons (eVar 1) aNil)))) aNil))) (mgTup 2 (mgsCons (mgName 2) (mgsCons (mgName 3) mgsNil))))
  (sSeq (sSet 4 (eL (mLc (iRange1 (aCons (eVar 3) aNil)) [5] (mgName 5) bYes (eH (mMul (eL (aLim (aCons (eK (.int 0)) aNil))) (eVar 2))))))
  (sSeq (sFor (iRange1 (aCons (eOp bAdd (eK (.int 2)) (eOp bMul (eVar 2) (eVar 3))) aNil)) (mgName 6) (sSeq (sPar3 7 8 9 (aCons (eCall m_law_roll (aCons (eVar 0) (aCons (eVar 2) aNil))) (aCons (eCall m_law_roll (aCons (eVar 0) (aCons (eVar 3) aNil))) (aCons (eCall m_law_pick (aCons (eVar 0) (aCons (eL (aLim (aCons (eK (.int 6)) (aCons (eK (.int 6)) (aCons (eK (.int 8)) (aCons (eK (.int 9)) (aCons (eK (.int 7)) aNil))))))) aNil))) aNil))))
  (sSeq (sSet 10 (eCall m_law_shift (aCons (eVar 9) aNil)))
  (sSeq (sSet 11 (eTup (aCons (eOp bMod (eCall fInt (aCons (eOp bAdd (eVar 7) (eOp bIx (eVar 10) (eK (.int 0)))) aNil)) (eVar 2)) (aCons (eOp bMod (eCall fInt (aCons (eOp bAdd (eVar 8) (eOp bIx (eVar 10) (eK (.int 1)))) aNil)) (eVar 3)) aNil))))
  (sIf (bAnd (bTest (eOp bNe (eVar 11) (eTup (aCons (eVar 7) (aCons (eVar 8) aNil))))) (bAnd (bTest (eOp bEq (eOp bIx (eOp bIx (eVar 4) (eVar 8)) (eVar 7)) (eK (.int 0)))) (bTest (eOp bEq (eOp bIx (eOp bIx (eVar 4) (eOp bIx (eVar 11) (eK (.int 1)))) (eOp bIx (eVar 11) (eK (.int 0)))) (eK (.int 0)))))) (sSeq (sAsg (eVar 9) (mgSub bSetL (eOp bIx (eVar 4) (eVar 8)) (eVar 7)))
  (sAsg (eOp bSub (eK (.int 10)) (eVar 9)) (mgSub bSetL (eOp bIx (eVar 4) (eOp bIx (eVar 11) (eK (.int 1)))) (eOp bIx (eVar 11) (eK (.int 0)))))) sNil)))))
  (sRet (eVar 4)))))
def m_law_grid : List T → VH → Res T := cutM (defM 12 2 s_law_grid)
def s_law_mirrored : MS := (sSeq (sSet 1 (eL (aLim (aCons (eK (.int 0)) (aCons (eK (.int 3)) (aCons (eK (.int 2)) (aCons (eK (.int 1)) (aCons (eK (.int 6)) (aCons (eK (.int 5)) (aCons (eK (.int 4)) (aCons (eK (.int 9)) (aCons (eK (.int 8)) (aCons (eK (.int 7)) aNil)))))))))))))
  (sRet (eL (mLc (iSeqC (eVar 0)) [2] (mgName 2) bYes (eL (mLc (iSeqC (eRev (eVar 2))) [3] (mgName 3) bYes (eOp bIx (eVar 1) (eVar 3))))))))
def m_law_mirrored : List T → VH → Res T := defM 4 1 s_law_mirrored
def s_law_spelled : MS := (sRet (eMt "str" mJoin (eK (.str "/")) (aCons (eL (mLc (iSeqC (eRev (eVar 0))) [1] (mgName 1) bYes (eMt "str" mJoin (eK (.str "")) (aCons (eL (mLc (iSeqC (eVar 1)) [2] (mgName 2) bYes (eCall fStr (aCons (eVar 2) aNil)))) aNil)))) aNil)))
def m_law_spelled : List T → VH → Res T := defM 3 1 s_law_spelled
def s_check_pattern : MS := (sIf (bNot (bTest (eIsi (.o 2) (eVar 0)))) sBad sNil)
def m_check_pattern : List T → VH → Res T := defM 1 1 s_check_pattern
def s_round_from : MS := (sSeq (sAsg (eTup (aCons (eIxK kv_SHIFTS (eIxK kv_AHEAD (eVar 1))) (aCons (eOp bMul (eCall fLen (aCons (eFld 2 1 (eVar 0)) aNil)) (eCall fLen (aCons (eOp bIx (eFld 2 1 (eVar 0)) (eK (.int 0))) aNil))) aNil))) (mgTup 2 (mgsCons (mgName 4) (mgsCons (mgName 5) mgsNil))))
  (sSeq (sSet 6 (eL (mLc (iRange1 (aCons (eVar 5) aNil)) [7] (mgName 7) bYes (eCall m_figure_at (aCons (eVar 0) (aCons (eOp bAdd (eVar 2) (eOp bMul (eVar 7) (eOp bIx (eVar 4) (eK (.int 0))))) (aCons (eOp bAdd (eVar 3) (eOp bMul (eVar 7) (eOp bIx (eVar 4) (eK (.int 1))))) aNil)))))))
  (sRet (eTup (aCons (eL (mLc (iEnumM (aCons (eVar 6) aNil)) [7, 8] (mgTup 2 (mgsCons (mgName 7) (mgsCons (mgName 8) mgsNil))) (bTest (eOp bEq (eVar 8) (eIxK kv_AHEAD (eVar 1)))) (eVar 7))) (aCons (eVar 5) aNil))))))
def m_round_from : List T → VH → Res T := defM 9 4 s_round_from
def s_longest_along : MS := (sSeq (sSet 2 (eK (.int 0)))
  (sSeq (sFor (iRange1 (aCons (eCall fLen (aCons (eFld 2 1 (eVar 0)) aNil)) aNil)) (mgName 3) (sFor (iRange1 (aCons (eCall fLen (aCons (eOp bIx (eFld 2 1 (eVar 0)) (eK (.int 0))) aNil)) aNil)) (mgName 4) (sSeq (sAsg (eCall m_round_from (aCons (eVar 0) (aCons (eVar 1) (aCons (eVar 4) (aCons (eVar 3) aNil))))) (mgTup 2 (mgsCons (mgName 5) (mgsCons (mgName 6) mgsNil))))
  (sSeq (sIf (bTest (eOp bEq (eVar 5) (eL (aLim aNil)))) (sRet (eK .non)) sNil)
  (sSeq (sSet 7 (eL (mLc (iZipM (aCons (eVar 5) (aCons (eL (aLim (aStar (eSl (eVar 5) (oSome (eK (.int 1))) oNo) (aCons (eOp bAdd (eOp bIx (eVar 5) (eK (.int 0))) (eVar 6)) aNil)))) aNil))) [8, 9] (mgTup 2 (mgsCons (mgName 8) (mgsCons (mgName 9) mgsNil))) bYes (eOp bSub (eVar 9) (eVar 8)))))
  (sSet 2 (eCall fMax (aCons (eL (aLim (aCons (eVar 2) (aStar (eVar 7) aNil)))) aNil))))))))
  (sRet (eVar 2))))
def m_longest_along : List T → VH → Res T := defM 10 2 s_longest_along
def s_least_held : MS := (sSeq (sExpr (eCall m_check_pattern (aCons (eVar 0) aNil)))
  (sSeq (sSet 1 (eL (mLc (iKeysK kv_AHEAD) [2] (mgName 2) bYes (eCall m_longest_along (aCons (eVar 0) (aCons (eVar 2) aNil))))))
  (sRet (eIf (bTest (eOp bIn (eK .non) (eVar 1))) (eK .non) (eOp bAdd (eK (.int 1)) (eCall fMax (aCons (eVar 1) aNil)))))))
def m_least_held : List T → VH → Res T := defM 3 1 s_least_held
def s_check_way : MS := (sIf (bOr (bNot (bTest (eIsi (.b "str") (eVar 0)))) (bTest (eInK true kv_AHEAD (eVar 0)))) sBad sNil)
def m_check_way : List T → VH → Res T := defM 1 1 s_check_way
def s_longest_free : MS := (sSeq (sExpr (eCall m_check_pattern (aCons (eVar 0) aNil)))
  (sSeq (sExpr (eCall m_check_way (aCons (eVar 1) aNil)))
  (sRet (eCall m_longest_along (aCons (eVar 0) (aCons (eVar 1) aNil))))))
def m_longest_free : List T → VH → Res T := defM 2 2 s_longest_free
def s_law_told : MS := (sSeq (sSet 1 (eCall (cutM (makeM 2 m_Pattern___init__)) (aCons (eCall m_law_spelled (aCons (eVar 0) aNil)) aNil)))
  (sRet (eOp bAdd (eL (mLc (iSeqC (eL (aLim (aCons (eK (.str "e")) (aCons (eK (.str "n")) (aCons (eK (.str "a")) (aCons (eK (.str "b")) aNil))))))) [2] (mgName 2) bYes (eCall m_longest_free (aCons (eVar 1) (aCons (eVar 2) aNil))))) (eL (aLim (aCons (eCall m_least_held (aCons (eVar 1) aNil)) aNil))))))
def m_law_told : List T → VH → Res T := defM 3 1 s_law_told
def s_law_turned : MS := (sSeq (sAsg (eTup (aCons (eCall fLen (aCons (eOp bIx (eVar 0) (eK (.int 0))) aNil)) (aCons (eCall fLen (aCons (eVar 0) aNil)) (aCons (eL (aLim (aCons (eK (.int 0)) (aCons (eK (.int 3)) (aCons (eK (.int 6)) (aCons (eK (.int 9)) (aCons (eK (.int 2)) (aCons (eK (.int 5)) (aCons (eK (.int 8)) (aCons (eK (.int 1)) (aCons (eK (.int 4)) (aCons (eK (.int 7)) aNil)))))))))))) aNil)))) (mgTup 3 (mgsCons (mgName 1) (mgsCons (mgName 2) (mgsCons (mgName 3) mgsNil)))))
  (sRet (eL (mLc (iRange1 (aCons (eVar 1) aNil)) [4] (mgName 4) bYes (eL (mLc (iRange1 (aCons (eVar 2) aNil)) [5] (mgName 5) bYes (eOp bIx (eVar 3) (eOp bIx (eOp bIx (eVar 0) (eOp bSub (eOp bSub (eVar 2) (eK (.int 1))) (eVar 5))) (eVar 4)))))))))
def m_law_turned : List T → VH → Res T := defM 6 1 s_law_turned
def s_law_case_right : MS := (sSeq (sSet 1 (eCall (cutM (makeM 2 m_Pattern___init__)) (aCons (eK (.str "88/22")) aNil)))
  (sSeq (sIf (bTest (eOp bNe (eL (aLim (aCons (eCall m_longest_free (aCons (eVar 1) (aCons (eK (.str "n")) aNil))) (aCons (eCall m_longest_free (aCons (eVar 1) (aCons (eK (.str "e")) aNil))) (aCons (eCall m_longest_free (aCons (eCall (cutM (makeM 2 m_Pattern___init__)) (aCons (eK (.str "64/00")) aNil)) (aCons (eK (.str "e")) aNil))) aNil))))) (eL (aLim (aCons (eK (.int 2)) (aCons (eK .non) (aCons (eK .non) aNil))))))) (sRet (eK (.bl false))) sNil)
  (sSeq (sFor (iRange1 (aCons (eK (.int 5)) aNil)) (mgName 2) (sSeq (sSet 3 (eCall m_law_grid (aCons (eVar 0) (aCons (eK (.int 5)) aNil))))
  (sSeq (sSet 4 (eCall m_law_told (aCons (eVar 3) aNil)))
  (sSeq (sPar 5 6 (aCons (eCall fLen (aCons (eOp bIx (eVar 3) (eK (.int 0))) aNil)) (aCons (eCall fLen (aCons (eVar 3) aNil)) aNil)))
  (sSeq (sSet 7 (eCall m_law_begun (aCons (eVar 3) (aCons (eCall m_law_roll (aCons (eVar 0) (aCons (eVar 5) aNil))) (aCons (eCall m_law_roll (aCons (eVar 0) (aCons (eVar 6) aNil))) aNil)))))
  (sSeq (sIf (bTest (eOp bNe (eCall m_law_told (aCons (eVar 7) aNil)) (eVar 4))) (sRet (eK (.bl false))) sNil)
  (sSeq (sIf (bOr (bTest (eOp bNe (eCall m_law_told (aCons (eL (mLc (iSeqC (eVar 3)) [8] (mgName 8) bYes (eOp bAdd (eVar 8) (eVar 8)))) aNil)) (eVar 4))) (bTest (eOp bNe (eCall m_law_told (aCons (eOp bAdd (eVar 3) (eVar 3)) aNil)) (eVar 4)))) (sRet (eK (.bl false))) sNil)
  (sSeq (sIf (bTest (eOp bNe (eCall m_law_told (aCons (eCall m_law_turned (aCons (eVar 3) aNil)) aNil)) (eL (aLim (aCons (eOp bIx (eVar 4) (eK (.int 1))) (aCons (eOp bIx (eVar 4) (eK (.int 0))) (aCons (eOp bIx (eVar 4) (eK (.int 3))) (aCons (eOp bIx (eVar 4) (eK (.int 2))) (aCons (eOp bIx (eVar 4) (eK (.int 4))) aNil))))))))) (sRet (eK (.bl false))) sNil)
  (sIf (bTest (eOp bNe (eCall m_law_told (aCons (eCall m_law_mirrored (aCons (eVar 3) aNil)) aNil)) (eL (aLim (aCons (eOp bIx (eVar 4) (eK (.int 0))) (aCons (eOp bIx (eVar 4) (eK (.int 1))) (aCons (eOp bIx (eVar 4) (eK (.int 3))) (aCons (eOp bIx (eVar 4) (eK (.int 2))) (aCons (eOp bIx (eVar 4) (eK (.int 4))) aNil))))))))) (sRet (eK (.bl false))) sNil)))))))))
  (sRet (eK (.bl true))))))
def m_law_case_right : List T → VH → Res T := defM 9 1 s_law_case_right
def s_law_cell : MS := (sSeq (sIf (bTest (eOp bLt (eVar 1) (eCall fLen (aCons (eVar 0) aNil)))) (sRet (eOp bIx (eVar 0) (eVar 1))) sNil)
  (sSeq (sSet 2 (eOp bMod (eCall fInt (aCons (eOp bMul (eK (.int 52361)) (eOp bAdd (eOp bAdd (eOp bMul (eVar 1) (eVar 1)) (eOp bMul (eK (.int 7)) (eVar 1))) (eK (.int 13)))) aNil)) (eK (.int 2147483543))))
  (sSeq (sFor (iSeqC (eSl (eVar 0) oNo (oSome (eK (.int 3))))) (mgName 3) (sSet 2 (eOp bMod (eCall fInt (aCons (eOp bAdd (eOp bAdd (eOp bMul (eVar 2) (eK (.int 44087))) (eOp bMul (eVar 3) (eK (.int 5)))) (eK (.int 1201))) aNil)) (eK (.int 2147483543)))))
  (sRet (eVar 2)))))
def m_law_cell : List T → VH → Res T := defM 4 2 s_law_cell
def s_law_purse : MS := (sRet (eH (aLim (aCons (eIf (bOr (bTest (eOp bLt (eVar 0) (eK (.int 0)))) (bTest (eOp bGe (eVar 0) (eOp bPow (eK (.int 10)) (eK (.int 18)))))) (eCall fAbs (aCons (eVar 0) aNil)) (eK (.int 0))) (aCons (eOp bMod (eCall fInt (aCons (eOp bAdd (eOp bMul (eVar 0) (eK (.int 48271))) (eK (.int 11))) aNil)) (eK (.int 2147483543))) (aCons (eK (.int 0)) aNil))))))
def m_law_purse : List T → VH → Res T := defM 1 1 s_law_purse
end K33
set_option Elab.async false
set_option linter.all false
set_option maxRecDepth 100000
set_option maxHeartbeats 4000000
namespace TL
open PySem PySem.Spec L2
section
variable {X : Cx} {Y : Wd}
theorem call_at {A : Around} {k : Nat} {f : Addr} {fd : FuncData} {ps : List Str} {sp : Sp} {pins : List (Addr × Obj)} {σ : St} {H : Hp} {s : Shared} {Q : VK} {us : List Value} {vs : List V} (F : FnOk X.prog X.w X.K X.mg X.base CX0 k f fd ps sp) (hr : Room k A) (e0 : Env0 X.prog X.w X.K X.mg X.base A X.stack s H) (hb : Binds X.K fd ps [])
    (I : Inv X pins σ H s) (r : Vals vs us) (h : sp vs H Q E0) (E : Value → Shared → Prop) : wpAny (model X.prog X.w) A (call (.ref f) us) (EP X pins σ Q) E s := by
  have hl : us.length = ps.length := by rw [← r.length]; exact F.len _ _ _ _ h
  refine wpAny_call (codeAny_mono (F.run A X.stack s H ⟨us, []⟩ us vs Q E0 hr e0 (by
    have := hb s us I.kIn (by simpa using hl)
    simpa using this) r h) fun r s' hq => ?_)
  cases r with
  | error e => exact False.elim hq
  | ok fl =>
    cases fl with
    | ret w => exact I.after hq
    | next => exact False.elim hq
    | brk => exact False.elim hq
    | cont => exact False.elim hq
def rEqO (K : PySem.W.Frag) (C : Addr) (sp : Sp) (neg : Bool) : R2 := fun x y H Q => ∃ (a dx : Addr) (fs : List (Str × V)) (u : Value), x = .ref a ∧ H a = some (.ins C dx fs) ∧ TyX K H y u ∧ PySem.W.notFirst K C u = true ∧ sp [x, y] H (fun v H' => ∃ b, v = .bl b ∧ Q (.bl (neg != b)) H') E0
theorem op_eqO {k : Nat} {C f : Addr} {fd : FuncData} {ps : List Str} {sp : Sp} (F : FnOk X.prog X.w X.K X.mg X.base CX0 k f fd ps sp) (hs : PySem.W.findIn X.K (.ref C) "__eq__" = some (some (.ref f))) (hf : PySem.W.isFn X.K (.ref f) = true) (hb : Binds X.K fd ps []) (hr : Room k X.A) : OpR X (compareOp .Eq) (rEqO X.K C sp false) := by
  intro pins s σ H x y v u Q I rx ry h
  obtain ⟨a, dx, fs, t, rfl, ha, ty, nf, hsp⟩ := h
  cases rx
  obtain ⟨mA, J, _⟩ := ins_get I.hok ha
  obtain ⟨od, J, _⟩ := J.look
  obtain ⟨P, Z, p, _⟩ := kit_of I ry ty
  obtain ⟨m, hF⟩ := I.fr
  show wpAny (model X.prog X.w) X.A (richCompare .Eq (.ref a) u) _ _ _
  refine PySem.W.cmp_K (op := .Eq) (tb := t) hr.units0 hF I.ok.mod.kin J (Z.ty _ _ I.kIn p) nf hs hf ?_
  refine wpAny_mono (call_at (us := [.ref a, u]) (vs := [.ref a, y]) F hr I.env0 hb I (.cons rfl (.cons ry .nil)) hsp _) (fun r s' q => ?_) fun _ _ z => z
  obtain ⟨w, H', I', rw', b, rfl, q⟩ := q
  cases rw'
  rw [Bool.false_bne] at q
  exact ⟨.bl b, H', I', rfl, q⟩
end
section
open PySem.W PySem.Calls PyProof.Rows Builtin
variable {prog : Program} {w : World} {A : Around} {E : Value → Shared → Prop} {s : Shared} {K : Frag} {x C L f : Addr} {h₀ : Heap} {m : Str → Option Value} {ox : Obj} {od : Option Obj} {b tb : Value}
theorem bound_blt {M : Model} {name : Str} {id : String} {args : List Value} {Q : Option Value → Shared → Prop} (X : K.In s.heap) (I : InstAt s.heap x ox C od) (hs : findIn K (.ref C) name = some (some (.builtin id))) (hb : ∀ self, bindSpecial (.builtin id) self = pure (.builtin id, [self]))
    (h : wpAny M A (call (.builtin id) (.ref x :: args)) (fun v => Q (some v)) E s) : wpAny M A (callSpecialIfBound? (.ref x) name args) Q E s := by
  simp only [callSpecialIfBound?, bindSpecialIfBound?]
  refine wpAny_holding (wpAny_bind (wpAny_bind (wpAny_bind (I.type.here ((looks_findIn X hs).here ?_)))))
  have fin : wpAny M A (call (.builtin id) ([.ref x] ++ args) >>= fun v => pure (some v)) Q E s := wpAny_bind (wpAny_mono h (fun v s' h' => wpAny_pure h') fun _ _ h' => h')
  refine wpAny_bind (wpAny_askSetting (wpAny_ite ?_))
  split
  · exact wpAny_bind ((Looks.of_pure (hb _)).here (wpAny_pure (by exact fin)))
  · exact wpAny_tryCatch (wpAny_bind ((Looks.of_pure (hb _)).here (wpAny_pure (by exact fin))))
theorem cmp_ne {Q : Value → Shared → Prop} (hu : A.units < cLine) (hu1 : A.in1.units < cLine) (F : Fr h₀ L s.heap m) (X₀ : K.In h₀) (I : InstAt s.heap x ox C od) (hb : Looks (model prog w) s.heap (typeOf b) tb) (hn : notFirst K C tb = true)
    (hN : findIn K (.ref C) "__ne__" = some (some (.builtin "object.__ne__"))) (hm : mroIn K C (.type "object") = some true) (hs : findIn K (.ref C) "__eq__" = some (some (.ref f))) (hf : isFn K (.ref f) = true)
    (h : wpAny (model prog w) A.in1 (call (.ref f) [.ref x, b]) (fun v s' => ∃ r, v = .bool r ∧ Q (.bool (!r)) s') E s) : wpAny (model prog w) A (richCompare .NotEq (.ref x) b) Q E s := by
  have X := X₀.keeps F.keep
  have blt : wpAny (model prog w) A (call (.builtin "object.__ne__") [.ref x, b]) (fun v s' => ∃ r, v = .bool r ∧ Q v s') E s := by
    refine wpAny_call (codeAny_call_builtin PySem.F.slot_object_ne.plain PySem.F.cmpEntry_ne (check_slot (i := "object.__ne__") (owner := "object") (n := "__ne__") PySem.F.cmpKind_ne PySem.F.cmpSplit_ne (I.type.andThen (looks_mroIn X hm)) (PySem.F.cmpArgs_ne _ _) ?_))
    unfold Builtin.«object.__ne__»
    refine wpAny_bind (m := slotArgs "__ne__" 1 _) (wpAny_pure ?_)
    refine wpAny_bind (m := cRoomFor _ _) (wpAny_cRoomFor hu1 ?_)
    refine wpAny_bind (m := callSpecialIfBound? (.ref x) (Str.ofString "__eq__") _) (ifBound_K X I hs hf (wpAny_mono h (fun v s' hv => ?_) fun _ _ e => e))
    obtain ⟨r, rfl, hq⟩ := hv
    refine wpAny_bind (m := truthy (.bool r)) (wpAny_truthy_bool ?_)
    exact wpAny_pure ⟨_, rfl, hq⟩
  have one : wpAny (model prog w) A (tryCompare (.ref x) (cmpInfo .NotEq).2.1 b) (fun r s' => ∃ v, r = some v ∧ Q v s') E s := by
    unfold tryCompare
    refine wpAny_bind (bound_blt X I hN PySem.F.slot_object_ne.bind (wpAny_mono blt (fun v s' hv => ?_) fun _ _ e => e))
    obtain ⟨r, rfl, hq⟩ := hv
    exact wpAny_pure ⟨_, rfl, hq⟩
  unfold richCompare
  simp only [oneThing_ref]
  refine wpAny_holding (wpAny_bind (wpAny_cRoomFor hu ?_))
  refine wpAny_bind (I.type.here (wpAny_bind (hb.here ?_)))
  have fin : ∀ {k : Option Value → Sem Value}, (∀ v s', Q v s' → wpAny (model prog w) A (k (some v)) Q E s') → wpAny (model prog w) A (tryCompare (.ref x) (cmpInfo .NotEq).2.1 b >>= k) Q E s := fun hk => wpAny_bind (wpAny_mono one (fun r s' z => by
    obtain ⟨v, rfl, hq⟩ := z
    exact hk v s' hq) fun _ _ e => e)
  split
  · rename_i q
    have e : subIn K tb (.ref C) = some false := by
      rcases Bool.or_eq_true_iff.mp hn with e | e
      · rw [beq_iff_eq.mp e] at q; simp at q
      · exact beq_iff_eq.mp e
    refine wpAny_bind ((looks_subIn X e).here ?_)
    simp only [Bool.false_eq_true, if_false]
    exact fin fun v s' hq => wpAny_pure hq
  · exact fin fun v s' hq => wpAny_pure hq
end
section
variable {X : Cx} {Y : Wd}
theorem op_neO {k : Nat} {C f : Addr} {fd : FuncData} {ps : List Str} {sp : Sp} (F : FnOk X.prog X.w X.K X.mg X.base CX0 k f fd ps sp) (hs : PySem.W.findIn X.K (.ref C) "__eq__" = some (some (.ref f))) (hf : PySem.W.isFn X.K (.ref f) = true) (hb : Binds X.K fd ps []) (hr : Room (k + 1) X.A)
    (hN : PySem.W.findIn X.K (.ref C) "__ne__" = some (some (.builtin "object.__ne__"))) (hm : PySem.W.mroIn X.K C (.type "object") = some true) : OpR X (compareOp .NotEq) (rEqO X.K C sp true) := by
  intro pins s σ H x y v u Q I rx ry h
  obtain ⟨a, dx, fs, t, rfl, ha, ty, nf, hsp⟩ := h
  cases rx
  obtain ⟨mA, J, _⟩ := ins_get I.hok ha
  obtain ⟨od, J, _⟩ := J.look
  obtain ⟨P, Z, p, _⟩ := kit_of I ry ty
  obtain ⟨m, hF⟩ := I.fr
  show wpAny (model X.prog X.w) X.A (richCompare .NotEq (.ref a) u) _ _ _
  refine cmp_ne (tb := t) hr.units0 hr.in1.units0 hF I.ok.mod.kin J (Z.ty _ _ I.kIn p) nf hN hm hs hf ?_
  refine wpAny_mono (call_at (us := [.ref a, u]) (vs := [.ref a, y]) F hr.in1 I.env0.in1 hb I (.cons rfl (.cons ry .nil)) hsp _) (fun r s' q => ?_) fun _ _ z => z
  obtain ⟨w, H', I', rw', b, rfl, q⟩ := q
  cases rw'
  rw [Bool.true_bne] at q
  exact ⟨b, rfl, .bl (!b), H', I', rfl, q⟩
/-- x == y and x != y, x an instance of class c -/
def bEqO (c : Nat) (neg : Bool) (m : List T → VH → Res T) (a b : T) (h : VH) : Res T := match getI h a, tyOf h b with
  | some (c', _), some _ => if c' = c then (match m [a, b] h with
    | .ok (.bl r) h1 => .ok (.bl (neg != r)) h1
    | _ => .bad) else .bad
  | _, _ => .bad
theorem ot_eqO {c : Nat} {neg : Bool} {C : Addr} {m : List T → VH → Res T} (ok : WdOk Y) (hc : Y.cm c = some C) (nf : ∀ (x : TyC) (u : Value), x.fit = true → x.v Y u → PySem.W.notFirst Y.K C u = true) : OT Y (rEqO Y.K C (spM Y m) neg) (bEqO c neg m) := fun ρ H t1 t2 v1 v2 h t h' Q r1 r2 hr e to => by
  unfold bEqO at e
  split at e
  · rename_i c' fs yo e1 e2
    split at e
    · rename_i ec
      subst ec
      split at e
      · rename_i r h1 em
        cases e
        obtain ⟨a, C', dx, vfs, rfl, hc', ha, _, _⟩ := getI_ok r1 hr e1
        rw [hc] at hc'
        cases hc'
        obtain ⟨hf, u, hu, ty⟩ := tyOf_ok ok r2 hr e2
        refine ⟨a, dx, vfs, u, rfl, ha, ty, nf _ _ hf hu, ρ, [t1, t2], h, .bl r, _, .cons r1 (.cons r2 .nil), hr, em, ⟨fun ρ' H' v ev hr' rv => ?_⟩⟩
        cases rv
        exact ⟨r, rfl, to.to ρ' H' _ ev hr' (.bl _)⟩
      · cases e
    · cases e
  · cases e
end
end TL
set_option Elab.async false
set_option linter.all false
set_option maxRecDepth 100000
set_option maxHeartbeats 4000000
namespace TL
open PySem PySem.Spec L2
section
variable {X : Cx} {Y : Wd}
def rOwn1 (C : Addr) (sp : Sp) : List V → Hp → VK → Prop := fun vs H Q => ∃ (a dx : Addr) (fs : List (Str × V)), vs = [.ref a] ∧ H a = some (.ins C dx fs) ∧ sp [.ref a] H (fun v H' => ∃ z, v = .str z ∧ Q (.str z) H') E0
theorem cr_strO {k : Nat} {C f : Addr} {fd : FuncData} {ps : List Str} {sp : Sp} (F : FnOk X.prog X.w X.K X.mg X.base CX0 k f fd ps sp) (hs : PySem.W.findIn X.K (.ref C) "__str__" = some (some (.ref f))) (hf : PySem.W.isFn X.K (.ref f) = true) (hb : Binds X.K fd ps []) (hr : Room (k + 1 + 1) X.A) :
    CallR X (.type "str") (rOwn1 C sp) := by
  intro pins s σ H vs us Q I r h
  obtain ⟨a, dx, fs, rfl, ha, hsp⟩ := h
  rw [Vals.ref1 r]
  obtain ⟨mA, J, _⟩ := ins_get I.hok ha
  obtain ⟨od, J, _⟩ := J.look
  refine PySem.W.kso_call hr.in1.in1.units0 I.kIn J hs hf ?_
  refine wpAny_mono (call_at (us := [.ref a]) (vs := [.ref a]) F hr.in1.in1 I.env0.in1.in1 hb I (.cons rfl .nil) hsp _) (fun r s' q => ?_) fun _ _ z => z
  obtain ⟨w, H', I', rw', z, rfl, q⟩ := q
  obtain ⟨t, rfl⟩ := rw'
  exact ⟨.str z, H', I', ⟨t, rfl⟩, q⟩
theorem cr_reprO {k : Nat} {C f : Addr} {fd : FuncData} {ps : List Str} {sp : Sp} (F : FnOk X.prog X.w X.K X.mg X.base CX0 k f fd ps sp) (hs : PySem.W.findIn X.K (.ref C) "__repr__" = some (some (.ref f))) (hf : PySem.W.isFn X.K (.ref f) = true) (hb : Binds X.K fd ps []) (hr : Room (k + 1) X.A) :
    CallR X (.builtin "repr") (rOwn1 C sp) := by
  intro pins s σ H vs us Q I r h
  obtain ⟨a, dx, fs, rfl, ha, hsp⟩ := h
  rw [Vals.ref1 r]
  obtain ⟨mA, J, _⟩ := ins_get I.hok ha
  obtain ⟨od, J, _⟩ := J.look
  obtain ⟨m, hF⟩ := I.fr
  refine PySem.W.repr_K hr.in1.units0 hF I.ok.mod.kin J hs hf ?_
  refine wpAny_mono (call_at (us := [.ref a]) (vs := [.ref a]) F hr.in1 I.env0.in1 hb I (.cons rfl .nil) hsp _) (fun r s' q => ?_) fun _ _ z => z
  obtain ⟨w, H', I', rw', z, rfl, q⟩ := q
  obtain ⟨t, rfl⟩ := rw'
  exact ⟨.str z, H', I', ⟨t, rfl⟩, q⟩
/-- what an own def makes of an instance of class c -/
def fOwn1 (c : Nat) (m : List T → VH → Res T) (ts : List T) (h : VH) : Res T := match ts with
  | [t] => (match getI h t with
    | some (c', _) => if c' = c then (match m [t] h with
      | .ok (.str z) h1 => .ok (.str z) h1
      | _ => .bad) else .bad
    | none => .bad)
  | _ => .bad
theorem ct_own1 {c : Nat} {C : Addr} {m : List T → VH → Res T} (hc : Y.cm c = some C) : CT Y (rOwn1 C (spM Y m)) (fOwn1 c m) := fun ρ H ts vs h t h' Q r hr e to => by
  unfold fOwn1 at e
  split at e
  · split at e
    · rename_i c' fs e1
      split at e
      · rename_i ec
        subst ec
        split at e
        · rename_i z h1 em
          cases e
          obtain ⟨v, rfl, rv⟩ := rps_one r
          obtain ⟨a, C', dx, vfs, rfl, hc', ha, _, _⟩ := getI_ok rv hr e1
          rw [hc] at hc'
          cases hc'
          refine ⟨a, dx, vfs, rfl, ha, ρ, _, h, .str z, _, .cons rv .nil, hr, em, ⟨fun ρ' H' v ev hr' rv' => ?_⟩⟩
          cases rv' with
          | str hx => exact ⟨z, rfl, to.to ρ' H' _ ev hr' (.str hx)⟩
        · cases e
      · cases e
    · cases e
  · cases e
/-- str(text) -/
def fStrS (ts : List T) (h : VH) : Res T := match ts with
  | [.str z] => .ok (.str z) h
  | _ => .bad
theorem ct_strS : CT Y (fun xs H Q => ∃ a, xs = [.str a] ∧ Q (.str a) H) fStrS := fun ρ H ts vs h t h' Q r hr e to => by
  unfold fStrS at e
  split at e
  · cases e
    obtain ⟨v, rfl, rv⟩ := rps_one r
    cases rv with
    | str hx => exact ⟨_, rfl, to.to ρ H _ .refl hr (.str hx)⟩
  · cases e
def eFmt (f : ME) : ME := fun τ h => match f τ h with
  | .ok (.str y) h1 => .ok (.str y) h1
  | .ok (.int i) h1 => if i.natAbs.log2 < 1920 ∧ (Str.ofString (toString i)).length ≤ 1000000 then .ok (.str (toString i)) h1 else .bad
  | _ => .bad
theorem xFmt {e : Expr} {f : ME} {pos : Pos} (he : PE X e (TM Y f)) : PE X (.FormattedValue e (-1) none pos) (TM Y (eFmt f)) := pe_imp (pe_fmt he) fun σ H Q q => by
  obtain ⟨ρ, τ, h, u, h', G, e, to⟩ := q
  unfold eFmt at e
  split at e
  · rename_i y h1 e1
    cases e
    refine ⟨ρ, τ, h, _, _, G, e1, ⟨fun ρ1 H1 v ev hr r => ?_⟩⟩
    cases r with
    | str hx => exact .inl ⟨y, rfl, by rw [sizeLine_eq]; omega, to.to ρ1 H1 _ ev hr (.str hx)⟩
  · rename_i i h1 e1
    split at e
    · rename_i hz
      cases e
      refine ⟨ρ, τ, h, _, _, G, e1, ⟨fun ρ1 H1 v ev hr r => ?_⟩⟩
      cases r
      exact .inr ⟨i, rfl, hz.1, to.to ρ1 H1 _ ev hr (.str hz.2)⟩
    · cases e
  · cases e
def runJ : List ME → Str → TS_ → VH → Res T
  | [], acc, _, h => .ok (.str acc) h
  | f :: fs, acc, τ, h => match f τ h with
    | .ok (.str y) h1 => if acc.length + y.length ≤ 1000000 then runJ fs (acc ++ y) τ h1 else .bad
    | _ => .bad
def eJoin (fs : List ME) : ME := fun τ h => runJ fs Str.empty τ h
inductive PJM (X : Cx) (Y : Wd) : List Expr → List ME → Prop where
  | nil : PJM X Y [] []
  | cons {e : Expr} {f : ME} {es : List Expr} {fs : List ME} : PE X e (TM Y f) → PJM X Y es fs → PJM X Y (e :: es) (f :: fs)
theorem PJM.pj {es : List Expr} {fs : List ME} (h : PJM X Y es fs) : PJ X es (fs.map (TM Y)) := by
  induction h with
  | nil => exact .nil
  | cons a _ ih => exact .cons a ih
theorem runJ_ok {Q : VK} {t : T} {h' : VH} : ∀ (fs : List ME) (acc : Str) (ρ : Rh) (τ : TS_) (σ : St) (H : Hp) (h : VH), acc.length ≤ 1000000 → Go Y ρ H τ σ h → runJ fs acc τ h = .ok t h' → To Y (Rp Y) ρ H t h' Q → tJs (fs.map (TM Y)) acc σ H fun out H1 => Q (.str out) H1
  | [], acc, ρ, τ, σ, H, h, ha, G, e, to => by
    cases e
    exact to.to ρ H _ .refl G.hr (.str ha)
  | f :: fs, acc, ρ, τ, σ, H, h, ha, G, e, to => by
    unfold runJ at e
    split at e
    · rename_i y h1 e1
      split at e
      · rename_i hz
        refine ⟨ρ, τ, h, .str y, h1, G, e1, ⟨fun ρ1 H1 v ev hr r => ?_⟩⟩
        cases r with
        | str hx =>
          have hl : (acc ++ y).length ≤ 1000000 := by rw [len_app]; exact hz
          exact ⟨y, rfl, by rw [sizeLine_eq]; omega, runJ_ok fs (acc ++ y) ρ1 τ σ H1 h1 hl (G.ev ev hr) e (to.ev ev)⟩
      · cases e
    · cases e
theorem xJoin {v1 v2 : Expr} {rest : List Expr} {fs : List ME} {pos : Pos} (h : PJM X Y (v1 :: v2 :: rest) fs) : PE X (.JoinedStr (v1 :: v2 :: rest) pos) (TM Y (eJoin fs)) := pe_imp (pe_joined h.pj) fun σ H Q q => by
  obtain ⟨ρ, τ, h, u, h', G, e, to⟩ := q
  exact runJ_ok fs Str.empty ρ τ σ H h (Nat.zero_le _) G e to
end
end TL
set_option Elab.async false
set_option linter.all false
set_option maxRecDepth 100000
set_option maxHeartbeats 4000000
namespace TL
open PySem PySem.Spec L2
section
variable {X : Cx} {Y : Wd}
def eMeth (c : Nat) (mm : List T → VH → Res T) (f : ME) (g : MA) : ME := fun τ h => match f τ h with
  | .ok o h1 => (match getI h1 o with
    | some (c', _) => if c' = c then (match g τ h1 with
      | .ok ts h2 => mm (o :: ts) h2
      | .bad => .bad) else .bad
    | none => .bad)
  | .bad => .bad
theorem lookup_none {m : Str} : ∀ {vfs : List (Str × V)} {n : Nat} {fn : List Str}, vfs.map (·.1) = fn.take n → m ∉ fn → vfs.lookup m = none
  | [], _, _, _, _ => rfl
  | (k, v) :: vfs, n, fn, e, hn => by
    cases fn with
    | nil => simp at e
    | cons a fn =>
      cases n with
      | zero => simp at e
      | succ n =>
        simp only [List.map_cons, List.take_succ_cons, List.cons.injEq] at e
        rw [List.mem_cons, not_or] at hn
        have ne : (m == k) = false := by
          rw [W.beq_decide]
          exact decide_eq_false fun z => hn.1 (z.trans e.1)
        rw [List.lookup_cons, ne]
        exact lookup_none e.2 hn.2
theorem tm_meth {c : Nat} {C : Addr} {nm : Str} {mm : List T → VH → Res T} {f : ME} {g : MA} {σ : St} {H : Hp} {Q : VK} (hc : Y.cm c = some C) (hn : nm ∉ Y.fn c) (q : TM Y (eMeth c mm f g) σ H Q) :
    TM Y f σ H fun x H1 => ∃ (a dx : Addr) (fs : List (Str × V)), x = .ref a ∧ H1 a = some (.ins C dx fs) ∧ fs.lookup nm = none ∧ TMA Y g σ H1 fun vs H2 => spM Y mm (x :: vs) H2 Q E0 := by
  obtain ⟨ρ, τ, h, t, h', G, e, to⟩ := q
  unfold eMeth at e
  cases e1 : f τ h with
  | bad => simp only [e1] at e; cases e
  | ok o h1 =>
    simp only [e1] at e
    split at e
    · rename_i c' fs eo
      split at e
      · rename_i ec
        subst ec
        split at e
        · rename_i ts h2 e2
          refine ⟨ρ, τ, h, o, h1, G, e1, ⟨fun ρ1 H1 v ev hr r => ?_⟩⟩
          obtain ⟨a, C', dx, vfs, rfl, hc', ha, hm, rs⟩ := getI_ok r hr eo
          rw [hc] at hc'
          cases hc'
          exact ⟨a, dx, vfs, rfl, ha, lookup_none hm hn, ρ1, τ, h1, ts, h2, G.ev ev hr, e2, ⟨fun ρ2 H2 vs ev2 hr2 rs2 => ⟨ρ2, o :: ts, h2, t, h', .cons (r.ev ev2.toEvR) rs2, hr2, e, ⟨fun ρ' H' v' ev' hr' r' => to.to ρ' H' v' (ev.trans (ev2.trans ev')) hr' r'⟩⟩⟩⟩
        · cases e
      · cases e
    · cases e
theorem xMeth {pl : Sem Bool} {c k : Nat} {C f : Addr} {fd : FuncData} {ps : List Str} {mm : List T → VH → Res T} {o e : Expr} {es : List Expr} {nm : Str} {t : ME} {g : MA} {apos pos : Pos} (hK : X.K = Y.K) (hc : Y.cm c = some C) (hn : nm ∉ Y.fn c) (cl : Cls Y.K C) (hm : Meth Y.K C nm f) (F : FnOk X.prog X.w X.K X.mg X.base CX0 k f fd ps (spM Y mm)) (hr : Room k X.A) (hb : Binds X.K fd ps [])
    (ho : PE X o (TM Y t)) (ha : PA X (e :: es) (TMA Y g)) (hst : starEach (e :: es) X.env = (false, eval e X.env) :: starEach es X.env := by rfl) (hpl : (backTo pos (starEach es X.env)).any (·.1) = false := by rfl)
    (ht : eval (.Call (.Attribute o nm apos) (e :: es) [] pos) X.env = (do
      let ov ← eval o X.env
      standAt apos.atName
      let (f, first) ← holding [ov] (getMethod ov nm pl)
      callWith pos f first (backTo pos (starEach (e :: es) X.env)) (backToKw pos (keywordEach [] X.env))) := by rfl) :
    PE X (.Call (.Attribute o nm apos) (e :: es) [] pos) (TM Y (eMeth c mm t g)) := pe_imp (pe_meth ho (hK ▸ cl) (hK ▸ hm) F hr hb .nil pass0 ha hst hpl ht) fun σ H Q q => by
  obtain ⟨ρ, τ, h, u, h1, G, e1, to⟩ := tm_meth hc hn q
  refine ⟨ρ, τ, h, u, h1, G, e1, ⟨fun ρ1 H1 v ev hr r => ?_⟩⟩
  obtain ⟨a, dx, fs, ex, ea, el, z⟩ := to.to ρ1 H1 v ev hr r
  refine ⟨a, dx, fs, ex, ea, el, ?_⟩
  obtain ⟨ρ2, τ2, h2, ts, h3, G2, e2, to2⟩ := z
  exact ⟨ρ2, τ2, h2, ts, h3, G2, e2, ⟨fun ρ3 H3 vs ev3 hr3 rs => by rw [List.append_nil]; exact to2.to ρ3 H3 vs ev3 hr3 rs⟩⟩
/-- o.m(k = v, ..) -/
theorem xMethKw {pl : Sem Bool} {c k : Nat} {C f : Addr} {fd : FuncData} {ps ks : List Str} {ix : List Nat} {mm : List T → VH → Res T} {o : Expr} {kws : List Keyword} {nm : Str} {t : ME} {g : MA} {apos pos : Pos} (hK : X.K = Y.K) (hc : Y.cm c = some C) (hn : nm ∉ Y.fn c) (cl : Cls Y.K C) (hm : Meth Y.K C nm f) (F : FnOk X.prog X.w X.K X.mg X.base CX0 k f fd ps (spM Y mm)) (hr : Room k X.A)
    (hb : KwB X.K fd ps ks 1 ix) (ho : PE X o (TM Y t)) (ha : PK X kws (TMA Y g)) (hl : ∀ σ H R, TMA Y g σ H R → TMA Y g σ H fun vs H' => vs.length = ks.length ∧ R vs H') (hall : (backToKw pos (keywordEach kws X.env)).all (·.1.isSome) = true := by rfl) (hks : (backToKw pos (keywordEach kws X.env)).filterMap (·.1) = ks := by rfl)
    (hpl : ((backTo pos (starEach [] X.env)).any (·.1) || (backToKw pos (keywordEach kws X.env)).any (·.1.isNone)) = false := by rfl)
    (ht : eval (.Call (.Attribute o nm apos) [] kws pos) X.env = (do
      let ov ← eval o X.env
      standAt apos.atName
      let (f, first) ← holding [ov] (getMethod ov nm pl)
      callWith pos f first (backTo pos (starEach [] X.env)) (backToKw pos (keywordEach kws X.env))) := by rfl) :
    PE X (.Call (.Attribute o nm apos) [] kws pos) (TM Y (eMeth c mm t (aPerm ix g))) := by
  constructor
  intro pins s σ H Q I q
  refine PySem.W.methodCall_KW (pl := pl) (thn (ho.run pins s σ H _ I (tm_meth hc hn q)) fun u s1 ⟨x, H1, I1, rx, a, dx, fs, ex, ea, l, q1⟩ => ?_) ht
  subst ex
  cases rx
  refine getmeth_ok I1 ea (hK ▸ cl) (hK ▸ hm) l ?_
  refine PySem.W.callWith_KW0 (first := [.ref a]) (h₀ := X.base) I.mod.kin (hK ▸ hm : Meth X.K C nm f).kp hall ?_ hpl
  refine thn (ha.run pos pins s1 σ H1 _ I1 (hl _ _ _ (tma_perm q1))) ?_
  rintro ws s2 ⟨zs, H2, J, r, nz, sp⟩
  rw [hks]
  have rp := Vals.perm r ix
  have bd := hb.to s2 [.ref a] ws J.kIn rfl (r.length.symm.trans nz)
  refine ⟨J.kIn, wpAny_call (codeAny_mono (F.run X.A X.stack s2 H2 _ _ (V.ref a :: permL ix zs) Q E0 hr J.env0 bd (.cons rfl rp) sp) ?_)⟩
  intro res s3 z
  match res, z with
  | .ok (.ret u), z => exact J.after z
  | .error v, z => exact z.elim
/-- C(k = v, ..): made, and cut off -/
theorem xMakeKw {c k : Nat} {f C : Addr} {fd : FuncData} {ps ks : List Str} {ix : List Nat} {m : List T → VH → Res T} {x : Str} {p pos : Pos} {kws : List Keyword} {g : MA} (hc : Y.cm c = some C) (M : Mk X.K C f) (F : FnOk X.prog X.w X.K X.mg X.base CX0 k f fd ps (spM Y m)) (hr : Room (k + 1) X.A) (hg : Gl X x) (hm : X.mg x = some (.ref C)) (hb : KwB X.K fd ps ks 1 ix)
    (ha : PK X kws (TMA Y g)) (hl : ∀ σ H R, TMA Y g σ H R → TMA Y g σ H fun vs H' => vs.length = ks.length ∧ R vs H') (hall : (backToKw pos (keywordEach kws X.env)).all (·.1.isSome) = true := by rfl) (hks : (backToKw pos (keywordEach kws X.env)).filterMap (·.1) = ks := by rfl)
    (hdb : (x == ("__debug__" : Str)) = false := by decide) (hpl : ((backTo pos (starEach [] X.env)).any (·.1) || (backToKw pos (keywordEach kws X.env)).any (·.1.isNone)) = false := by rfl) :
    PE X (.Call (.Name x p) [] kws pos) (TM Y (eCall (cutM (makeM c m)) (aPerm ix g))) :=
  pe_imp (pe_makeK0 (E := E0) (ks := ks) (g := fun us ws => us ++ permL ix ws) (gV := fun vs zs => vs ++ permL ix zs) M F hr hg hm ⟨hb.to, fun a b => a.append (Vals.perm b ix)⟩ pass0 ha hall hks hdb hpl) fun σ H Q q => by
    have z := hl _ _ _ (tma_perm (tm_call (ct_cut (ct_make (E := E0) hc)) q))
    obtain ⟨ρ, τ, h, ts, h', G, e, to⟩ := z
    show TMA Y g σ H _
    refine ⟨ρ, τ, h, ts, h', G, e, ⟨fun ρ1 H1 vs ev hr1 rs => ?_⟩⟩
    obtain ⟨nz, w⟩ := to.to ρ1 H1 vs ev hr1 rs
    refine ⟨rfl, nz, fun y dx hy hdx hne => ?_⟩
    have := w y dx hy hdx hne
    rw [List.append_nil] at this
    exact this
end
end TL
set_option Elab.async false
set_option linter.all false
set_option maxRecDepth 100000
set_option maxHeartbeats 4000000
namespace TL
open PySem
end TL
namespace TL
open PySem PySem.Spec L2
/-- no built-in type and no class of the text stands ahead of C -/
def nfChk (cl : ClT) (K : PySem.W.Frag) (C : Addr) : Bool := (tyNames.all fun n => PySem.W.notFirst K C (.type n)) && cl.all fun q => PySem.W.notFirst K C (.ref (He.ga K q.2.1))
theorem nf_of {w' : World} {cl : ClT} {K : PySem.W.Frag} {tl : List (Str × He.Defn)} {C : Addr} (h : nfChk cl K C = true) : ∀ (x : TyC) (u : Value), x.fit = true → x.v (wdOf w' cl K tl) u → PySem.W.notFirst K C u = true := by
  unfold nfChk at h
  rw [Bool.and_eq_true] at h
  intro x u hf hv
  cases x with
  | b n =>
    cases hv
    have hm : n ∈ tyNames := by simpa [TyC.fit] using hf
    exact List.all_eq_true.mp h.1 n hm
  | o c =>
    obtain ⟨C', hC, rfl⟩ := hv
    have hC : (cl.lookup c).map (fun q => He.ga K q.1) = some C' := hC
    rw [Option.map_eq_some_iff] at hC
    obtain ⟨q, hq, rfl⟩ := hC
    exact List.all_eq_true.mp h.2 _ (lookup_mem2 hq)
def neB (K : PySem.W.Frag) (C : Addr) : Bool := He.eqO (PySem.W.findIn K (.ref C) "__ne__") (some (some (.builtin "object.__ne__")))
theorem ne_of {K : PySem.W.Frag} {C : Addr} (h : neB K C = true) : PySem.W.findIn K (.ref C) "__ne__" = some (some (.builtin "object.__ne__")) := He.eqO_ok h
end TL
set_option Elab.async false
set_option linter.all false
set_option maxRecDepth 100000
set_option maxHeartbeats 4000000
namespace TL
open PySem PySem.Spec PySem.Calls PySem.W PyProof PyProof.Rows
end TL
namespace TL
open PySem PySem.Spec L2
open PySem.W (alike AllAlike Sortable dataLe EachIs)
end TL
set_option Elab.async false
set_option linter.all false
set_option maxRecDepth 100000
set_option maxHeartbeats 4000000
namespace TL
open PySem PySem.Spec L2
end TL
set_option Elab.async false
set_option linter.all false
set_option maxRecDepth 100000
set_option maxHeartbeats 4000000
namespace TL
open PySem PySem.Spec L2 PyProof.Rows
/-- the cells: the zip, its two tuples, the three iterators -/
abbrev cells3 (N : Nat) : List Addr := [N + 5, N + 3, N + 4, N, N + 1, N + 2]
structure At3 (N a b c n i : Nat) (h : Heap) : Prop where
  z : IsZip h (N + 5) (N + 3) (N + 4) .none
  ti : IsTupOf3 h (N + 3) (.ref N) (.ref (N + 1)) (.ref (N + 2))
  tout : ∃ u v w, IsTupOf3 h (N + 4) u v w
  p : h.IsListIter N a i
  q : h.IsListIter (N + 1) b i
  r : h.IsListIter (N + 2) c i
  le : i ≤ n
theorem At3.there {N a b c n i : Nat} {h : Heap} (s : At3 N a b c n i h) {k : Addr} (m : k ∈ cells3 N) : ∃ o, h.get? k = some o ∧ ∀ v, o.data ≠ .cell v := by
  have it : ∀ {k l : Addr}, h.IsListIter k l i → ∃ o, h.get? k = some o ∧ ∀ v, o.data ≠ .cell v := fun ⟨o, e, _, d⟩ => ⟨o, e, fun v y => by rw [d] at y; cases y⟩
  simp only [List.mem_cons, List.not_mem_nil, or_false] at m
  rcases m with rfl | rfl | rfl | rfl | rfl | rfl
  · exact ⟨_, s.z, nofun⟩
  · exact ⟨_, s.ti, nofun⟩
  · obtain ⟨u, v, w, e⟩ := s.tout
    exact ⟨_, e, nofun⟩
  · exact it s.p
  · exact it s.q
  · exact it s.r
end TL
set_option Elab.async false
set_option linter.all false
set_option maxRecDepth 100000
set_option maxHeartbeats 4000000
namespace TL
open PySem PySem.Spec L2
end TL
set_option Elab.async false
set_option linter.all false
set_option maxRecDepth 100000
set_option maxHeartbeats 4000000
namespace TL
open PySem PySem.Spec L2
end TL
set_option Elab.async false
set_option linter.all false
set_option maxRecDepth 100000
set_option maxHeartbeats 4000000
namespace TL
open PySem PySem.Spec L2
section
variable {P : Program} {w : World} {K : PySem.W.Frag} {mg : Str → Option Value} {base : Heap} {Y : Wd} {k : Nat} {f : Addr} {fd : FuncData} {ps : List Str}
theorem spM_bad {vs : List V} {H : Hp} {Q : VK} {E : XK} (q : spM Y (fun _ _ => .bad) vs H Q E) : False := by
  obtain ⟨_, _, _, _, _, _, _, e, _⟩ := q
  cases e
theorem fnBot : FnOk P w K mg base CX0 k f fd ps (spM Y (fun _ _ => .bad)) :=
  ⟨fun _ _ _ _ q => (spM_bad q).elim, fun _ _ _ _ _ _ _ _ _ _ _ _ _ q => (spM_bad q).elim⟩
end
end TL
set_option Elab.async false
set_option linter.all false
set_option maxRecDepth 100000
set_option maxHeartbeats 4000000
namespace TL
open PySem PySem.Spec PySem.Calls PySem.W PyProof PyProof.Rows
end TL
namespace TL
open PySem PySem.Spec L2
open PySem.W (dataLe EachIs)
end TL
set_option Elab.async false
set_option linter.all false
set_option maxRecDepth 100000
set_option maxHeartbeats 4000000
namespace TL
open PySem PySem.Spec L2
/-- the own error classes by number, with their attributes -/
def exNm : List (Str × List Str) := [("InvalidText", ["given"]), ("InvalidNumber", ["given"]), ("InvalidName", ["given"]), ("InvalidIndex", ["given"]), ("InvalidClaim", ["given"]), ("InvalidCell", ["given"]), ("InvalidMover", ["given"]), ("UnknownName", ["given"]),
  ("NotABoard", ["given"]), ("NotAStand", ["given"]), ("NotAPattern", ["given"]), ("NotAMatch", ["given"]), ("InvalidCells", ["index"]), ("InvalidPairs", ["index"]), ("NotMutual", ["place"]), ("TooMany", ["number"]), ("IsOver", []), ("Broken", ["index", "told"]), ("InUse", ["index"]), ("NothingToUndo", [])]
def exC (K : PySem.W.Frag) (c : Nat) : Option Addr := (exNm[c]?).map fun q => He.ga K q.1
def exFn (c : Nat) : List Str := match exNm[c]? with
  | some q => q.2
  | none => []
inductive ResX where
  | ok (t : T) (h : VH)
  | xc (c : Nat) (fs : List T) (h : VH)
  | bad
inductive Oux where
  | o (x : Out)
  | xc (c : Nat) (fs : List T) (τ : TS_) (h : VH)
abbrev MX := TS_ → VH → Oux
abbrev MEX := TS_ → VH → ResX
/-- what is wished behind an exception of the class c whose attributes are fs -/
def XcTo (Y : Wd) (ρ : Rh) (H : Hp) (c : Nat) (fs : List T) (h : VH) (R : Rh → Hp → Value → Option Addr → Prop) : Prop :=
  ∀ (ρ' : Rh) (H' : Hp) (C d : Addr) (vfs : List (Str × V)), Ev ρ H ρ' H' → HR Y ρ' H' h → exC Y.K c = some C → H' d = some (.xd vfs) → vfs.map (·.1) = (exFn c).take fs.length → Rps Y ρ' H' fs (vfs.map (·.2)) → R ρ' H' (.ref C) (some d)
theorem XcTo.ev {Y : Wd} {ρ ρ1 : Rh} {H H1 : Hp} {c : Nat} {fs : List T} {h : VH} {R : Rh → Hp → Value → Option Addr → Prop} (e : Ev ρ H ρ1 H1) (g : XcTo Y ρ H c fs h R) : XcTo Y ρ1 H1 c fs h R :=
  fun ρ' H' C d vfs e1 => g ρ' H' C d vfs (e.trans e1)
theorem XcTo.imp {Y : Wd} {ρ : Rh} {H : Hp} {c : Nat} {fs : List T} {h : VH} {R R' : Rh → Hp → Value → Option Addr → Prop} (g : XcTo Y ρ H c fs h R) (i : ∀ ρ' H' cls d, Ev ρ H ρ' H' → HR Y ρ' H' h → R ρ' H' cls d → R' ρ' H' cls d) : XcTo Y ρ H c fs h R' :=
  fun ρ' H' C d vfs e hr e1 e2 e3 e4 => i _ _ _ _ e hr (g ρ' H' C d vfs e hr e1 e2 e3 e4)
def OutToX (Y : Wd) (W : WX) (ρ : Rh) (H : Hp) (o : Oux) (D : Ends) : Prop := match o with
  | .o x => OutTo Y ρ H x D
  | .xc c fs τ h => XcTo Y ρ H c fs h fun ρ' H' cls d => ∀ σ', Sl Y ρ' H' τ σ' → W cls d σ' H'
theorem OutToX.ev {Y : Wd} {W : WX} {ρ ρ1 : Rh} {H H1 : Hp} {o : Oux} {D : Ends} (e : Ev ρ H ρ1 H1) (g : OutToX Y W ρ H o D) : OutToX Y W ρ1 H1 o D := by
  cases o with
  | o x => exact OutTo.ev e g
  | xc c fs τ h => exact XcTo.ev (R := fun ρ' H' cls d => ∀ σ', Sl Y ρ' H' τ σ' → W cls d σ' H') e g
def TMX (Y : Wd) (W : WX) (f : MX) : TS := fun D σ H => ∃ ρ τ h, Go Y ρ H τ σ h ∧ OutToX Y W ρ H (f τ h) D
def TMXE (Y : Wd) (W : WX) (f : MEX) : TE := fun σ H Q => ∃ ρ τ h, Go Y ρ H τ σ h ∧ match f τ h with
  | .ok t h' => To Y (Rp Y) ρ H t h' Q
  | .xc c fs h' => XcTo Y ρ H c fs h' fun _ H' cls d => W cls d σ H'
  | .bad => False
section
variable {X : Cx} {Y : Wd} {W : WX}
def mxL (f : MS) : MX := fun τ h => .o (f τ h)
theorem xxL {st : Stmt} {f : MS} (h : PS X st (TMS Y f)) : PS X st (TMX Y W (mxL f)) := h
def mxSeq (f g : MX) : MX := fun τ h => match f τ h with
  | .o (.nx τ' h') => g τ' h'
  | o => o
theorem xxNil : PSs X [] (TMX Y W (mxL sNil)) := xsNil (X := X) (Y := Y)
theorem xxOne {st : Stmt} {f : MX} (h1 : PS X st (TMX Y W f)) : PSs X [st] (TMX Y W f) := pss_one h1
theorem xxCons {st : Stmt} {rest : List Stmt} {f g : MX} (h1 : PS X st (TMX Y W f)) (h2 : PSs X rest (TMX Y W g)) : PSs X (st :: rest) (TMX Y W (mxSeq f g)) := pss_imp (pss_cons h1 h2) fun D σ H q => by
  obtain ⟨ρ, τ, h, G, to⟩ := q
  refine ⟨ρ, τ, h, G, ?_⟩
  unfold mxSeq at to
  cases e : f τ h with
  | xc c fs τ' h' => rw [e] at to; exact to
  | o x =>
    rw [e] at to
    cases x with
    | nx τ' h' => exact fun ρ' H' σ' ev hr sl => ⟨ρ', τ', h', ⟨sl, hr⟩, OutToX.ev ev to⟩
    | rt t h' => exact to
    | bk τ' h' => exact to
    | ct τ' h' => exact to
    | bad => exact to
def mxIf (c : MB) (f g : MX) : MX := fun τ h => match c τ h with
  | .ok true h1 => f τ h1
  | .ok false h1 => g τ h1
  | .bad => .o .bad
theorem xxIf {c : Expr} {a b : List Stmt} {m : MB} {f g : MX} {pos : Pos} (hc : PT X c (TMB Y m)) (ha : PSs X a (TMX Y W f)) (hb : PSs X b (TMX Y W g)) : PS X (.If c a b pos) (TMX Y W (mxIf m f g)) := ps_imp (ps_if hc ha hb) fun D σ H q => by
  obtain ⟨ρ, τ, h, G, to⟩ := q
  unfold mxIf at to
  split at to
  · rename_i h1 e1
    exact ⟨ρ, τ, h, true, h1, G, e1, ⟨fun ρ1 H1 k ev hr ek => by subst ek; exact iteT ⟨ρ1, τ, h1, G.ev ev hr, to.ev ev⟩⟩⟩
  · rename_i h1 e1
    exact ⟨ρ, τ, h, false, h1, G, e1, ⟨fun ρ1 H1 k ev hr ek => by subst ek; exact iteF ⟨ρ1, τ, h1, G.ev ev hr, to.ev ev⟩⟩⟩
  · exact (show False from to).elim
end
end TL
set_option Elab.async false
set_option linter.all false
set_option maxRecDepth 100000
set_option maxHeartbeats 4000000
namespace TL
open PySem PySem.Spec PyProof.Rows L2
section
variable {X : Cx} {Y : Wd} {W : WX}
def spX (Y : Wd) (m : List T → VH → ResX) : Sp := fun vs H Q E => ∃ ρ ts h, Rps Y ρ H ts vs ∧ HR Y ρ H h ∧ match m ts h with
  | .ok t h' => To Y (Rp Y) ρ H t h' Q
  | .xc c fs h' => XcTo Y ρ H c fs h' fun _ H' cls d => E cls d H'
  | .bad => False
def defX (n p : Nat) (f : MX) : List T → VH → ResX := fun ts h => if ts.length = p then (match f (startT n ts) h with
  | .o (.nx _ h') => .ok .non h'
  | .o (.rt t h') => .ok t h'
  | .xc c fs _ h' => .xc c fs h'
  | _ => .bad) else .bad
/-- where it raises nothing -/
def okX (m : List T → VH → ResX) : List T → VH → Res T := fun ts h => match m ts h with
  | .ok t h' => .ok t h'
  | _ => .bad
end
section
variable {P : Program} {w : World} {K : PySem.W.Frag} {mg : Str → Option Value} {base : Heap} {Y : Wd}
theorem fnX {x qual : Str} {params : Arguments} {body : List Stmt} {scope : Scope} {dvs : List V} {kws : List (Str × V)} {f : Addr} {fd : FuncData} {N ps : List Str} {k : Nat} {g : MX}
    (F : FunD K x qual params body scope dvs kws f fd) (S : FnScope N ps scope) (n p : Nat) (hn : N.length = n := by rfl) (hp : ps.length = p := by rfl)
    (hb : ∀ (cdv : Value) (A : Around) (outer : List Env) (s : Shared) (H : Hp) (E : XK), Room k (A.deeper (envOfC qual scope s.heap.objs.size f cdv)) → Takes (cxOf (L2.CX P w) P w K mg base N qual scope f cdv A outer s H E) (fun cls d _ H => E cls d H) →
      PassesOwn (model P w) (cxOf (L2.CX P w) P w K mg base N qual scope f cdv A outer s H E).A (cxOf (L2.CX P w) P w K mg base N qual scope f cdv A outer s H E).env (cxOf (L2.CX P w) P w K mg base N qual scope f cdv A outer s H E).xe →
      PSs (cxOf (L2.CX P w) P w K mg base N qual scope f cdv A outer s H E) body (TMX Y (fun cls d _ H => E cls d H) g)) :
    FnOk P w K mg base (L2.CX P w) (k + 1) f fd ps (spX Y (defX n p g)) := by
  subst hn hp
  refine F.ok S (fun vs H Q E h => ?_) (fun cdv A outer s H vs Q E hr h => ⟨TMX Y (fun cls d _ H => E cls d H) g, hb cdv A outer s H E hr (takes_of rfl rfl rfl rfl) (passes_of rfl), ?_⟩)
  · obtain ⟨ρ, ts, hh, r, hr, e⟩ := h
    unfold defX at e
    split at e
    · rename_i t h' e1
      split at e1
      · rename_i hl
        rw [r.length]; exact hl
      · cases e1
    · rename_i c fs h' e1
      split at e1
      · rename_i hl
        rw [r.length]; exact hl
      · cases e1
    · exact e.elim
  · obtain ⟨ρ, ts, hh, r, hr, e⟩ := h
    unfold defX at e
    by_cases hl : ts.length = ps.length
    · rw [if_pos hl] at e
      refine ⟨ρ, startT N.length ts, hh, ⟨sl_start r, hr⟩, ?_⟩
      cases q : g (startT N.length ts) hh with
      | xc c fs τ' h1 =>
        simp only [q] at e
        exact XcTo.imp (R' := fun ρ' H' cls d => ∀ σ', Sl Y ρ' H' τ' σ' → E cls d H') e fun ρ' H' cls d ev hr w σ' sl => w
      | o x =>
        simp only [q] at e
        cases x with
        | nx τ' h1 => exact fun ρ' H' σ' ev hr' sl => e.to ρ' H' .non ev hr' .non
        | rt u h1 => exact fun ρ' H' v ev hr' r' => e.to ρ' H' v ev hr' r'
        | bk τ' h1 => exact e.elim
        | ct τ' h1 => exact e.elim
        | bad => exact e.elim
    · rw [if_neg hl] at e
      exact e.elim
/-- used where nothing is raised -/
theorem fnPlain {k : Nat} {f : Addr} {fd : FuncData} {ps : List Str} {m : List T → VH → ResX} (F : FnOk P w K mg base (L2.CX P w) k f fd ps (spX Y m)) : FnOk P w K mg base CX0 k f fd ps (spM Y (okX m)) := by
  have key : ∀ {vs : List V} {H : Hp} {Q : VK} {E : XK}, spM Y (okX m) vs H Q E → spX Y m vs H Q E0 := by
    intro vs H Q E q
    obtain ⟨ρ, ts, h, t, h', r, hr, e, to⟩ := q
    refine ⟨ρ, ts, h, r, hr, ?_⟩
    unfold okX at e
    cases e1 : m ts h with
    | ok t1 h1 => simp only [e1] at e; cases e; exact to
    | xc c fs h1 => simp only [e1] at e; cases e
    | bad => simp only [e1] at e; cases e
  refine ⟨fun vs H Q E q => F.len _ _ _ _ (key q), fun A outer s H args us vs Q E hr e0 hb r q => codeAny_mono (F.run A outer s H args us vs Q E0 hr e0 hb r (key q)) fun r s' hq => ?_⟩
  cases r with
  | error e =>
    obtain ⟨_, _, _, _, _, _, _, _, _, _, _, _, z⟩ := (show L2.CX P w outer H s E0 e s' from hq)
    exact z.elim
  | ok fl =>
    cases fl with
    | ret u => exact hq
    | next => exact hq
    | brk => exact hq
    | cont => exact hq
end
end TL
set_option Elab.async false
set_option linter.all false
set_option maxRecDepth 100000
set_option maxHeartbeats 4000000
namespace TL
open PySem PySem.Spec PyProof.Rows L2
section
variable {X : Cx} {Y : Wd} {W : WX}
def eCallX (m : List T → VH → ResX) (g : MA) : MEX := fun τ h => match g τ h with
  | .ok ts h1 => m ts h1
  | .bad => .bad
theorem tmxe_call {m : List T → VH → ResX} {g : MA} {σ : St} {H : Hp} {Q : VK} (q : TMXE Y W (eCallX m g) σ H Q) : TMA Y g σ H fun vs H1 => spX Y m vs H1 Q fun cls d H' => W cls d σ H' := by
  obtain ⟨ρ, τ, h, G, to⟩ := q
  unfold eCallX at to
  cases e1 : g τ h with
  | bad => simp only [e1] at to
  | ok ts h1 =>
    simp only [e1] at to
    refine ⟨ρ, τ, h, ts, h1, G, e1, ⟨fun ρ1 H1 vs ev hr r => ⟨ρ1, ts, h1, r, hr, ?_⟩⟩⟩
    cases e2 : m ts h1 with
    | ok t h2 => simp only [e2] at to; exact to.ev ev
    | xc c fs h2 => simp only [e2] at to; exact XcTo.ev (R := fun _ H' cls d => W cls d σ H') ev to
    | bad => simp only [e2] at to
def spInit (K : PySem.W.Frag) (fld : Str) : Sp := fun vs H Q _ => ∃ (a C : Addr) (v : V), vs = [.ref a, v] ∧ OexC K C ∧ PySem.W.findIn K (.ref C) fld = some none ∧ H a = some (exo a C none) ∧
  ∀ dx, H dx = none → dx ≠ a → Q .non (upd (upd H dx (exd dx [(fld, v)])) a (exo a C (some dx)))
def mxRaise (c : Nat) (f : ME) : MX := fun τ h => match f τ h with
  | .ok t h' => .xc c [t] τ h'
  | .bad => .o .bad
theorem heap_raised {H : Hp} {a dx : Addr} {C : Addr} {u : HO} {w : HO} (ha : H a = none) : upd (del (upd (upd (upd H a (exo a C none)) dx u) a (exo a C (some dx))) a) dx w = upd H dx w := by
  funext b
  by_cases e : b = dx
  · rw [e, upd_same, upd_same]
  · rw [upd_ne e, upd_ne e]
    by_cases e2 : b = a
    · rw [e2, del_same, ha]
    · rw [del_ne e2, upd_ne e2, upd_ne e, upd_ne e2]
theorem xxRaise {x s y fld : Str} {c k : Nat} {C fI : Addr} {fd : FuncData} {e : Expr} {f : ME} {p pos pos2 : Pos} (hK : X.K = Y.K) (hcalm : X.calm = true) (tk : Takes X W) (hc : exC Y.K c = some C) (hfn : (exFn c).take 1 = [fld]) (Tc : OexC X.K C)
    (hno : PySem.W.findIn X.K (.ref C) fld = some none) (iC : PySem.W.findIn X.K (.ref C) "__init__" = some (some (.ref fI))) (tI : PySem.W.typeIn X.K (.ref fI) = some (.type "function")) (F1 : FnOk X.prog X.w X.K X.mg X.base CX0 k fI fd [s, y] (spInit X.K fld)) (hr : Room (k + 1) X.A)
    (hb : Binds X.K fd [s, y] []) (hg : Gl X x) (hm : X.mg x = some (.ref C)) (he : PA X [e] (TMA Y (aCons f aNil))) (hdb : (x == ("__debug__" : Str)) = false := by decide) (hst : starEach [e] X.env = (false, eval e X.env) :: starEach [] X.env := by rfl) :
    PS X (.Raise (some (.Call (.Name x p) [e] [] pos)) none pos2) (TMX Y W (mxRaise c f)) :=
  ps_imp (L2.ps_raise hcalm tk (pmk_oex (es := []) (ds := []) (dvs := []) Tc iC tI F1 hr hb .nil pass0 hg hm he hdb hst rfl)) fun D σ H q => by
    obtain ⟨ρ, τ, h, G, to⟩ := q
    unfold mxRaise at to
    cases e1 : f τ h with
    | bad => simp only [e1] at to; exact (show False from to).elim
    | ok t h1 =>
      simp only [e1] at to
      refine ⟨ρ, τ, h, [t], h1, G, ?_, ⟨fun ρ1 H1 vs ev hr r => ?_⟩⟩
      · unfold aCons aNil
        simp only [e1]
      · cases r with
        | cons r1 r2 =>
          rename_i v vs'
          cases r2
          refine ⟨by simp, fun a ha => ⟨a, C, v, rfl, Tc, hno, upd_same, fun dx hdx hne => ⟨rfl, dx, [(fld, v)], upd_same, ?_, ?_, ?_⟩⟩⟩
          · rw [upd_ne hne, upd_same]
          · rw [← hdx, upd_ne hne]
          · have hd : H1 dx = none := by rw [← hdx, upd_ne hne]
            rw [heap_raised ha]
            refine to ρ1 _ C dx [(fld, v)] (ev.trans (Ev.new hd)) (hr.new hd) hc upd_same (by simp [hfn]) (.cons (r1.ev (Ev.new hd).toEvR) .nil) σ (G.sl.ev (ev.trans (Ev.new hd)).toEvR)
end
section
variable {P : Program} {w : World} {K : PySem.W.Frag} {mg : Str → Option Value} {base : Heap}
theorem fnInit {x qual s y fld : Str} {params : Arguments} {body : List Stmt} {scope : Scope} {dvs : List V} {kws : List (Str × V)} {f : Addr} {fd : FuncData}
    (F : FunD K x qual params body scope dvs kws f fd) (S : FnScope [s, y] [s, y] scope)
    (hb : ∀ (cdv : Value) (A : Around) (outer : List Env) (st : Shared) (H : Hp) (E : XK), PSs (cxOf CX0 P w K mg base [s, y] qual scope f cdv A outer st H E).nox body (tOst K fld (tVar 0) (tVar 1))) :
    FnOk P w K mg base CX0 1 f fd [s, y] (spInit K fld) := by
  refine F.ok S (fun vs H Q E h => ?_) (fun cdv A outer st H vs Q E hr h => ⟨tOst K fld (tVar 0) (tVar 1), (hb cdv A outer st H E).nox, ?_⟩)
  · obtain ⟨a, C, v, rfl, _⟩ := h
    rfl
  · obtain ⟨a, C, v, rfl, T, hno, ha, q⟩ := h
    exact ⟨v, rfl, .ref a, rfl, a, C, rfl, T, hno, .inl ⟨ha, q⟩⟩
end
end TL
set_option Elab.async false
set_option linter.all false
set_option maxRecDepth 100000
set_option maxHeartbeats 4000000
namespace TL
open PySem PySem.Spec PyProof.Rows L2
/-- an own class over ValueError, as it stands -/
def exClsB (C : Addr) (o : Obj) : Bool := match o with
  | ⟨.type "type", _, .cls ⟨_, _, .ref C' :: bm, _, _, hd, _, _, _, _, del⟩, ⟨[_, _, _, _, some (.builtin "ValueError.__new__"), _]⟩⟩ => decide (C' = C) && (hd && (!del && PySem.HandSPX.refsVE bm))
  | _ => false
def exB (K : PySem.W.Frag) (x fld : Str) : Bool :=
  (match K.lookup (He.ga K x) with
    | some o => exClsB (He.ga K x) o
    | none => false) &&
  (He.eqO (PySem.W.findIn K (.ref (He.ga K x)) "__setattr__") (some (some (.builtin "object.__setattr__"))) &&
  (decide (PySem.W.subIn K (.ref (He.ga K x)) (.type "BaseException") = some true) &&
  (decide (PySem.W.typeIn K (.ref (He.ga K x)) = some (.type "type")) &&
  (PySem.W.keepIn K (.ref (He.ga K x)) &&
  (He.eqO (PySem.W.findIn K (.ref (He.ga K x)) "__init__") (some (some (.ref (He.ma K (He.ga K x) "__init__")))) &&
  (decide (PySem.W.typeIn K (.ref (He.ma K (He.ga K x) "__init__")) = some (.type "function")) &&
  He.eqO (PySem.W.findIn K (.ref (He.ga K x)) fld) (some none)))))))
structure ExF (K : PySem.W.Frag) (x fld : Str) : Prop where
  cls : OexC K (He.ga K x)
  init : PySem.W.findIn K (.ref (He.ga K x)) "__init__" = some (some (.ref (He.ma K (He.ga K x) "__init__")))
  fn : PySem.W.typeIn K (.ref (He.ma K (He.ga K x) "__init__")) = some (.type "function")
  no : PySem.W.findIn K (.ref (He.ga K x)) fld = some none
theorem exClsB_ok {C : Addr} {o : Obj} (h : exClsB C o = true) : ∃ nm q N bs bm sn sub ab col dd k0 k1 k2 k3 k5, o = excClassObj nm q C N bs bm true sn sub ab col dd k0 k1 k2 k3 k5 "ValueError.__new__" ∧ PySem.HandSPX.refsVE bm = true := by
  unfold exClsB at h
  split at h
  · simp only [Bool.and_eq_true, decide_eq_true_eq, Bool.not_eq_true'] at h
    obtain ⟨rfl, h2, h3, h4⟩ := h
    subst h2 h3
    exact ⟨_, _, _, _, _, _, _, _, _, _, _, _, _, _, _, rfl, h4⟩
  · cases h
theorem exB_ok {K : PySem.W.Frag} {x fld : Str} (h : exB K x fld = true) : ExF K x fld := by
  unfold exB at h
  simp only [Bool.and_eq_true, decide_eq_true_eq] at h
  obtain ⟨h1, h2, h3, h4, h5, h6, h7, h8⟩ := h
  refine ⟨⟨?_, He.eqO_ok h2, h3, h4, h5⟩, He.eqO_ok h6, h7, He.eqO_ok h8⟩
  split at h1
  · rename_i o e
    obtain ⟨nm, q, N, bs, bm, sn, sub, ab, col, dd, k0, k1, k2, k3, k5, rfl, hm⟩ := exClsB_ok h1
    exact ⟨nm, q, N, bs, bm, sn, sub, ab, col, dd, k0, k1, k2, k3, k5, e, hm⟩
  · cases h1
end TL
set_option Elab.async false
set_option linter.all false
set_option maxRecDepth 100000
set_option maxHeartbeats 4000000
namespace TL
open PySem PySem.Spec PyProof.Rows L2
end TL
set_option Elab.async false
set_option linter.all false
set_option maxRecDepth 100000
set_option maxHeartbeats 4000000
namespace TL
open PySem PySem.Spec L2
end TL
set_option Elab.async false
set_option linter.all false
set_option maxRecDepth 100000
set_option maxHeartbeats 4000000
namespace TL
open PySem PySem.Spec PySem.Calls PySem.W PyProof PyProof.Rows
end TL
namespace TL
open PySem PySem.Spec L2
section
variable {X : Cx} {Y : Wd}
def putG {κ β : Type} [DecidableEq κ] (kvs : List (κ × β)) (k : κ) (v : β) : List (κ × β) :=
  if (kvs.any fun q => decide (q.1 = k)) = true then kvs.map (fun q => if q.1 = k then (q.1, v) else q) else kvs ++ [(k, v)]
inductive DTR (Y : Wd) (ρ : Rh) (H : Hp) : List (List Key × T) → List (List Key × V) → Prop
  | nil : DTR Y ρ H [] []
  | cons {k : List Key} {t : T} {v : V} {kvs : List (List Key × T)} {vk : List (List Key × V)} : Rp Y ρ H t v → DTR Y ρ H kvs vk → DTR Y ρ H ((k, t) :: kvs) ((k, v) :: vk)
theorem DTR.of {ρ : Rh} {H : Hp} : ∀ {kvs : List (List Key × T)} {vk : List (List Key × V)}, vk.map (·.1) = kvs.map (·.1) → Rps Y ρ H (kvs.map (·.2)) (vk.map (·.2)) → DTR Y ρ H kvs vk
  | [], [], _, _ => .nil
  | [], _ :: _, e, _ => by simp at e
  | _ :: _, [], e, _ => by simp at e
  | (k, t) :: kvs, (k2, v) :: vk, e, r => by
    simp only [List.map_cons, List.cons.injEq] at e
    obtain ⟨rfl, e⟩ := e
    cases r with
    | cons a b => exact .cons a (.of e b)
theorem DTR.to {ρ : Rh} {H : Hp} {kvs : List (List Key × T)} {vk : List (List Key × V)} (d : DTR Y ρ H kvs vk) : vk.map (·.1) = kvs.map (·.1) ∧ Rps Y ρ H (kvs.map (·.2)) (vk.map (·.2)) := by
  induction d with
  | nil => exact ⟨rfl, .nil⟩
  | cons a _ ih => exact ⟨by simp [ih.1], .cons a ih.2⟩
theorem DTR.any {ρ : Rh} {H : Hp} {kvs : List (List Key × T)} {vk : List (List Key × V)} (d : DTR Y ρ H kvs vk) (j : List Key) : (vk.any fun q => decide (q.1 = j)) = kvs.any fun q => decide (q.1 = j) := by
  induction d with
  | nil => rfl
  | cons _ _ ih => simp only [List.any_cons, ih]
theorem DTR.snoc {ρ : Rh} {H : Hp} {kvs : List (List Key × T)} {vk : List (List Key × V)} (d : DTR Y ρ H kvs vk) {k : List Key} {t : T} {v : V} (b : Rp Y ρ H t v) : DTR Y ρ H (kvs ++ [(k, t)]) (vk ++ [(k, v)]) := by
  induction d with
  | nil => exact .cons b .nil
  | cons a _ ih => exact .cons a ih
theorem DTR.swap {ρ : Rh} {H : Hp} {kvs : List (List Key × T)} {vk : List (List Key × V)} (d : DTR Y ρ H kvs vk) {k : List Key} {t : T} {v : V} (b : Rp Y ρ H t v) :
    DTR Y ρ H (kvs.map fun q => if q.1 = k then (q.1, t) else q) (vk.map fun q => if q.1 = k then (q.1, v) else q) := by
  induction d with
  | nil => exact .nil
  | @cons k' t' v' kvs vk a d ih =>
    by_cases c : k' = k
    · simp only [List.map_cons, c, if_true]
      exact .cons b ih
    · simp only [List.map_cons, c, if_false]
      exact .cons a ih
theorem DTR.put {ρ : Rh} {H : Hp} {kvs : List (List Key × T)} {vk : List (List Key × V)} (d : DTR Y ρ H kvs vk) {k : List Key} {t : T} {v : V} (b : Rp Y ρ H t v) : DTR Y ρ H (putG kvs k t) (putK vk k v) := by
  unfold putG putK
  rw [d.any k]
  split
  · exact d.swap b
  · exact d.snoc b
theorem DTR.ev {ρ ρ' : Rh} {H H' : Hp} (e : EvR ρ H ρ' H') {kvs : List (List Key × T)} {vk : List (List Key × V)} (d : DTR Y ρ H kvs vk) : DTR Y ρ' H' kvs vk := by
  induction d with
  | nil => exact .nil
  | cons a _ ih => exact .cons (a.ev e) ih
theorem DTR.length {ρ : Rh} {H : Hp} {kvs : List (List Key × T)} {vk : List (List Key × V)} (d : DTR Y ρ H kvs vk) : vk.length = kvs.length := by
  induction d with
  | nil => rfl
  | cons _ _ ih => simp [ih]
end
end TL
set_option Elab.async false
set_option linter.all false
set_option maxRecDepth 100000
set_option maxHeartbeats 4000000
namespace TL
open PySem PySem.Spec L2 PyProof.Rows
open PySem.W (dataLe EachIs AllAlike Sortable)
end TL
namespace TL
open PySem PySem.Spec L2 PyProof.Rows
end TL
set_option Elab.async false
set_option linter.all false
set_option maxRecDepth 100000
set_option maxHeartbeats 4000000
namespace TL
open PySem PySem.Spec PySem.Calls PyProof PyProof.Rows PySem.W L2
end TL
set_option Elab.async false
set_option linter.all false
set_option maxRecDepth 100000
set_option maxHeartbeats 4000000
namespace TL
open PySem PySem.Spec L2 PyProof.Rows RZ
end TL
set_option Elab.async false
set_option linter.all false
set_option maxRecDepth 100000
set_option maxHeartbeats 4000000
namespace TL
open PySem PySem.Spec L2
end TL
set_option Elab.async false
set_option linter.all false
set_option maxRecDepth 100000
set_option maxHeartbeats 4000000
namespace TL
open PySem PySem.Spec L2 PyProof.Rows
end TL
set_option Elab.async false
set_option linter.all false
set_option maxRecDepth 100000
set_option maxHeartbeats 4000000
namespace TL
open PySem PySem.Spec L2
theorem out_nx {ρ : Rh} {p a : Addr} (hp : p ∈ ρ.ix) (h : ρ.out a) : a ≠ p := fun z => h.1 (z ▸ hp)
theorem Rd.updx {ρ : Rh} {H : Hp} {p a : Addr} {o u : HO} (hp : p ∈ ρ.ix) (h : ρ.out a) (r : Rd H a u) : Rd (upd H p o) a u :=
  r.elim (fun z => .inl ((upd_ne (out_nx hp h)).trans z)) fun ⟨q, z⟩ => .inr ⟨q, (upd_ne (out_nx hp h)).trans z⟩
mutual
/-- what stands at a thing that may change does not matter to a value -/
theorem Rp.updx {Y : Wd} {ρ : Rh} {H : Hp} {p : Addr} {o : HO} (hp : p ∈ ρ.ix) : ∀ {t : T} {v : V}, Rp Y ρ H t v → Rp Y ρ (upd H p o) t v
  | _, _, .int i => .int i
  | _, _, .bl b => .bl b
  | _, _, .non => .non
  | _, _, .ref h => .ref h
  | _, _, .str h => .str h
  | _, _, .obj c n h nm r => .obj c n ((upd_ne (out_nx hp n)).trans h) nm (Rps.updx hp r)
  | _, _, .lst h r => .lst ⟨h.1, h.2.1, (upd_ne (out_nx hp h.2.1)).trans h.2.2⟩ (Rps.updx hp r)
  | _, _, .arg ⟨l, h⟩ r => .arg ⟨l, h.imp (fun z => ⟨z.1, Rd.updx hp z.1 z.2⟩) id⟩ (Rps.updx hp r)
  | _, _, .tpx h r => .tpx (h.to id fun z _ => upd_ne (out_nx hp z)) (Rps.updx hp r)
  | _, _, .tup ⟨l, h⟩ r => .tup ⟨l, h.imp (fun z => ⟨z.1, Rd.updx hp z.1 z.2⟩) id⟩ (Rps.updx hp r)
theorem Rps.updx {Y : Wd} {ρ : Rh} {H : Hp} {p : Addr} {o : HO} (hp : p ∈ ρ.ix) : ∀ {ts : List T} {vs : List V}, Rps Y ρ H ts vs → Rps Y ρ (upd H p o) ts vs
  | _, _, .nil => .nil
  | _, _, .cons a b => .cons (Rp.updx hp a) (Rps.updx hp b)
end
theorem OR.updx {Y : Wd} {ρ : Rh} {H : Hp} {p a : Addr} {o : HO} (hp : p ∈ ρ.ix) (ne : a ≠ p) {vo : VO} (r : OR Y ρ H a vo) : OR Y ρ (upd H p o) a vo := by
  cases vo with
  | lst ts => exact let ⟨vs, x, hz, y⟩ := r; ⟨vs, (upd_ne ne).trans x, hz, y.updx hp⟩
  | ins c fs => exact let ⟨C, dx, vfs, hc, x, hn, y⟩ := r; ⟨C, dx, vfs, hc, (upd_ne ne).trans x, hn, y.updx hp⟩
  | dct kvs => exact let ⟨vk, x, y, z⟩ := r; ⟨vk, (upd_ne ne).trans x, y.updx hp, z.updx hp⟩
  | dcT kvs => exact let ⟨vk, x, y, z⟩ := r; ⟨vk, (upd_ne ne).trans x, y, z.updx hp⟩
  | dcF kvs => exact let ⟨q, vk, x, y, z⟩ := r; ⟨q, vk, (upd_ne ne).trans x, y.updx hp, z.updx hp⟩
  | dcN kvs => exact let ⟨q, x, i, y, z⟩ := r; ⟨q, (upd_ne ne).trans x, i, y.updx hp, z.updx hp⟩
  | tab nm => exact ⟨r.1, TbAt.to r.2 (upd_ne ne) fun c o z => ⟨o, (upd_ne (out_nx hp o)).trans z⟩⟩
/-- any change at ρ -/
theorem HR.put {Y : Wd} {ρ : Rh} {H : Hp} {h : VH} (r : HR Y ρ H h) {n : Nat} {p : Addr} {o : HO} {vo : VO} (hp : ρ.ix[n]? = some p) (ho : OR Y ρ (upd H p o) p vo) : HR Y ρ (upd H p o) (h.set n vo) := by
  have mp := List.mem_of_getElem? hp
  have nb : ∀ a ∈ ρ.bn, a ≠ p := fun a ha z => (r.bt a ha).2 (z ▸ mp)
  constructor
  case len => rw [List.length_set]; exact r.len
  case nd => exact r.nd
  case tb => exact r.tbTo (fun _ o _ => o) fun c o _ => upd_ne (out_nx mp o)
  case bt => exact fun a ha => ⟨by rw [upd_ne (nb a ha)]; exact (r.bt a ha).1, (r.bt a ha).2⟩
  case bl => exact fun a ha xs => by rw [upd_ne (nb a ha)]; exact r.bl a ha xs
  case at_ =>
    intro k w a h1 h2
    by_cases e : n = k
    · subst e
      obtain rfl : p = a := Option.some.inj (hp.symm.trans h2)
      have lt := (List.getElem?_eq_some_iff.mp h1).1
      rw [List.length_set] at lt
      rw [List.getElem?_set_self lt] at h1
      cases h1
      exact ho
    · rw [List.getElem?_set_ne e] at h1
      refine (r.at_ k w a h1 h2).updx mp fun z => e ?_
      subst z
      obtain ⟨l1, g1⟩ := List.getElem?_eq_some_iff.mp hp
      obtain ⟨l2, g2⟩ := List.getElem?_eq_some_iff.mp h2
      exact (List.getElem_inj r.nd).mp (g1.trans g2.symm)
end TL
set_option Elab.async false
set_option linter.all false
set_option maxRecDepth 100000
set_option maxHeartbeats 4000000
namespace TL
open PySem PySem.Spec L2 PyProof.Rows
abbrev cells2 (N : Nat) : List Addr := [N + 4, N + 2, N + 3, N, N + 1]
structure At2 (N a b n i : Nat) (h : Heap) : Prop where
  z : IsZip h (N + 4) (N + 2) (N + 3) .none
  ti : IsTupOf2 h (N + 2) (.ref N) (.ref (N + 1))
  tout : ∃ u v, IsTupOf2 h (N + 3) u v
  p : h.IsTupleIter N a i
  q : h.IsListIter (N + 1) b i
  le : i ≤ n
theorem At2.there {N a b n i : Nat} {h : Heap} (s : At2 N a b n i h) {k : Addr} (m : k ∈ cells2 N) : ∃ o, h.get? k = some o ∧ ∀ v, o.data ≠ .cell v := by
  simp only [List.mem_cons, List.not_mem_nil, or_false] at m
  rcases m with rfl | rfl | rfl | rfl | rfl
  · exact ⟨_, s.z, nofun⟩
  · exact ⟨_, s.ti, nofun⟩
  · obtain ⟨u, v, e⟩ := s.tout
    exact ⟨_, e, nofun⟩
  · obtain ⟨o, e, _, d⟩ := s.p
    exact ⟨o, e, fun v y => by rw [d] at y; cases y⟩
  · obtain ⟨o, e, _, d⟩ := s.q
    exact ⟨o, e, fun v y => by rw [d] at y; cases y⟩
end TL
set_option Elab.async false
set_option linter.all false
set_option maxRecDepth 100000
set_option maxHeartbeats 4000000
namespace TL
open PySem PySem.Spec L2 PyProof.Rows
section
variable {X : Cx} {pins : List (Addr × Obj)} {σ : St} {H : Hp} {s : Shared}
/-- entries and their values -/
abbrev NV (xs : List (NestedKey × Addr × V)) (ys : List (NestedKey × Addr × Value)) : Prop := Paired (fun (p : NestedKey × Addr × V) (q : NestedKey × Addr × Value) => p.1 = q.1 ∧ p.2.1 = q.2.1 ∧ RelV p.2.2 q.2.2) xs ys
def atN : List (NestedKey × Addr × V) → NestedKey → Option V
  | [], _ => none
  | x :: xs, k => if x.1 = k then some x.2.2 else atN xs k
def putN (xs : List (NestedKey × Addr × V)) (k : NestedKey) (b : Addr) (v : V) : List (NestedKey × Addr × V) :=
  if (atN xs k).isSome = true then xs.map (fun x => if x.1 = k then (x.1, x.2.1, v) else x) else xs ++ [(k, b, v)]
theorem NV.at_ {xs : List (NestedKey × Addr × V)} {ys : List (NestedKey × Addr × Value)} (r : NV xs ys) (k : NestedKey) : (atN xs k = none ∧ atKey ys k = none) ∨ ∃ v b u, atN xs k = some v ∧ atKey ys k = some (b, u) ∧ RelV v u := by
  induction r with
  | nil => exact .inl ⟨rfl, rfl⟩
  | @cons p q ps qs hq t ih =>
    by_cases e : p.1 = k
    · refine .inr ⟨p.2.2, q.2.1, q.2.2, by simp [atN, e], ?_, hq.2.2⟩
      have : q.1 = k := hq.1 ▸ e
      simp [atKey, this]
    · have e2 : ¬ q.1 = k := fun z => e (hq.1.trans z)
      have a1 : atN (p :: ps) k = atN ps k := by simp [atN, e]
      have a2 : atKey (q :: qs) k = atKey qs k := by simp [atKey, e2]
      rw [a1, a2]
      exact ih
theorem NV.keys {xs : List (NestedKey × Addr × V)} {ys : List (NestedKey × Addr × Value)} (r : NV xs ys) : xs.map (·.1) = ys.map (·.1) := by
  induction r with
  | nil => rfl
  | cons hq t ih => simp [hq.1, ih]
theorem NV.put {xs : List (NestedKey × Addr × V)} {ys : List (NestedKey × Addr × Value)} (r : NV xs ys) (k : NestedKey) (b : Addr) {v : V} {u : Value} (rv : RelV v u) : NV (putN xs k b v) (storedH ys k b u) := by
  have mp : ∀ {xs : List (NestedKey × Addr × V)} {ys : List (NestedKey × Addr × Value)}, NV xs ys → NV (xs.map fun x => if x.1 = k then (x.1, x.2.1, v) else x) (ys.map (putAt k u)) := by
    intro xs ys r
    induction r with
    | nil => exact .nil
    | @cons p q ps qs hq t ih =>
      refine .cons ?_ ih
      unfold putAt
      by_cases e : p.1 = k
      · have e2 : q.1 = k := hq.1 ▸ e
        simp only [if_pos e, if_pos e2]
        exact ⟨hq.1, hq.2.1, rv⟩
      · have e2 : ¬ q.1 = k := fun z => e (hq.1.trans z)
        simp only [if_neg e, if_neg e2]
        exact hq
  rcases r.at_ k with ⟨a, c⟩ | ⟨v0, b0, u0, a, c, _⟩
  · unfold putN
    rw [a, storedH_new c]
    exact Paired.snoc r ⟨rfl, rfl, rv⟩
  · unfold putN
    rw [a, storedH_old c]
    exact mp r
end
section
variable {X : Cx} {Y : Wd}
section
variable {ρ : Rh} {H : Hp}
/-- the entries, one by one -/
inductive NR (Y : Wd) (ρ : Rh) (H : Hp) : List (T × T) → List (NestedKey × Addr × V) → Prop
  | nil : NR Y ρ H [] []
  | cons {kt t : T} {k : NestedKey} {b : Addr} {v : V} {kvs : List (T × T)} {xs : List (NestedKey × Addr × V)} : nkT kt = some k → k.depth ≤ 8 → Rp Y ρ H kt (.ref b) → Rp Y ρ H t v → NR Y ρ H kvs xs → NR Y ρ H ((kt, t) :: kvs) ((k, b, v) :: xs)
theorem NR.of : ∀ {kvs : List (T × T)} {xs : List (NestedKey × Addr × V)}, nkT.nkTs (kvs.map (·.1)) = some (xs.map (·.1)) → (∀ x ∈ xs, x.1.depth ≤ 8) → Rps Y ρ H (kvs.map (·.1)) (xs.map fun x => V.ref x.2.1) → Rps Y ρ H (kvs.map (·.2)) (xs.map fun x => x.2.2) → NR Y ρ H kvs xs
  | [], [], _, _, _, _ => .nil
  | [], _ :: _, _, _, r, _ => by cases r
  | _ :: _, [], _, _, r, _ => by cases r
  | (kt, t) :: kvs, (k, b, v) :: xs, e, d, r1, r2 => by
    rw [List.map_cons, List.map_cons, nkT.nkTs] at e
    split at e
    · rename_i k0 ks e1 e2
      simp only [Option.some.injEq, List.cons.injEq] at e
      obtain ⟨rfl, rfl⟩ := e
      cases r1 with
      | cons a1 a2 => cases r2 with
        | cons b1 b2 => exact .cons e1 (d _ List.mem_cons_self) a1 b1 (NR.of e2 (fun x hx => d x (List.mem_cons_of_mem _ hx)) a2 b2)
    · cases e
theorem NR.to {kvs : List (T × T)} {xs : List (NestedKey × Addr × V)} (r : NR Y ρ H kvs xs) : (nkT.nkTs (kvs.map (·.1)) = some (xs.map (·.1)) ∧ ∀ x ∈ xs, x.1.depth ≤ 8) ∧ Rps Y ρ H (kvs.map (·.1)) (xs.map fun x => V.ref x.2.1) ∧ Rps Y ρ H (kvs.map (·.2)) (xs.map fun x => x.2.2) := by
  induction r with
  | nil => exact ⟨⟨rfl, fun _ h => by cases h⟩, .nil, .nil⟩
  | cons e d a b _ ih =>
    obtain ⟨⟨i1, i2⟩, i3, i4⟩ := ih
    refine ⟨⟨?_, fun x hx => ?_⟩, .cons a i3, .cons b i4⟩
    · rw [List.map_cons, List.map_cons, nkT.nkTs, e, i1]
    · rcases List.mem_cons.mp hx with rfl | hx
      · exact d
      · exact i2 x hx
theorem NR.length {kvs : List (T × T)} {xs : List (NestedKey × Addr × V)} (r : NR Y ρ H kvs xs) : xs.length = kvs.length := by
  induction r with
  | nil => rfl
  | cons _ _ _ _ _ ih => simp [ih]
theorem NR.ev {ρ' : Rh} {H' : Hp} (e : EvR ρ H ρ' H') {kvs : List (T × T)} {xs : List (NestedKey × Addr × V)} (r : NR Y ρ H kvs xs) : NR Y ρ' H' kvs xs := by
  induction r with
  | nil => exact .nil
  | cons k d a b _ ih => exact .cons k d (a.ev e) (b.ev e) ih
def getN : List (T × T) → NestedKey → Option T
  | [], _ => none
  | q :: r, k => if nkT q.1 = some k then some q.2 else getN r k
def putNT (kvs : List (T × T)) (k : NestedKey) (kt t : T) : List (T × T) :=
  if (getN kvs k).isSome = true then kvs.map (fun q => if nkT q.1 = some k then (q.1, t) else q) else kvs ++ [(kt, t)]
theorem NR.get {kvs : List (T × T)} {xs : List (NestedKey × Addr × V)} (r : NR Y ρ H kvs xs) (k : NestedKey) : (getN kvs k = none ∧ atN xs k = none) ∨ ∃ t v, getN kvs k = some t ∧ atN xs k = some v ∧ Rp Y ρ H t v := by
  induction r with
  | nil => exact .inl ⟨rfl, rfl⟩
  | @cons kt t k0 b v kvs xs e d a c _ ih =>
    by_cases q : k0 = k
    · exact .inr ⟨t, v, by simp [getN, e, q], by simp [atN, q], c⟩
    · have a1 : getN ((kt, t) :: kvs) k = getN kvs k := by simp [getN, e, q]
      have a2 : atN ((k0, b, v) :: xs) k = atN xs k := by simp [atN, q]
      rw [a1, a2]
      exact ih
theorem NR.snoc {kvs : List (T × T)} {xs : List (NestedKey × Addr × V)} (r : NR Y ρ H kvs xs) {kt t : T} {k : NestedKey} {b : Addr} {v : V} (e : nkT kt = some k) (d : k.depth ≤ 8) (a : Rp Y ρ H kt (.ref b)) (c : Rp Y ρ H t v) : NR Y ρ H (kvs ++ [(kt, t)]) (xs ++ [(k, b, v)]) := by
  induction r with
  | nil => exact .cons e d a c .nil
  | cons e' d' a' c' _ ih => exact .cons e' d' a' c' ih
theorem NR.put {kvs : List (T × T)} {xs : List (NestedKey × Addr × V)} (r : NR Y ρ H kvs xs) {kt t : T} {k : NestedKey} {b : Addr} {v : V} (e : nkT kt = some k) (d : k.depth ≤ 8) (a : Rp Y ρ H kt (.ref b)) (c : Rp Y ρ H t v) : NR Y ρ H (putNT kvs k kt t) (putN xs k b v) := by
  have mp : ∀ {kvs : List (T × T)} {xs : List (NestedKey × Addr × V)}, NR Y ρ H kvs xs → NR Y ρ H (kvs.map fun q => if nkT q.1 = some k then (q.1, t) else q) (xs.map fun x => if x.1 = k then (x.1, x.2.1, v) else x) := by
    intro kvs xs r
    induction r with
    | nil => exact .nil
    | @cons kt0 t0 k0 b0 v0 kvs xs e0 d0 a0 c0 _ ih =>
      rw [List.map_cons, List.map_cons]
      by_cases q : k0 = k
      · simp only [e0, q, if_true]
        exact .cons (q ▸ e0) (q ▸ d0) a0 c ih
      · have q2 : ¬ (some k0 = some k) := fun z => q (Option.some.inj z)
        simp only [e0, q, q2, if_false]
        exact .cons e0 d0 a0 c0 ih
  unfold putNT putN
  rcases r.get k with ⟨g1, g2⟩ | ⟨t1, v1, g1, g2, _⟩
  · rw [g1, g2]
    exact r.snoc e d a c
  · rw [g1, g2]
    exact mp r
theorem NR.or {kvs : List (T × T)} {xs : List (NestedKey × Addr × V)} {a : Addr} (r : NR Y ρ H kvs xs) (e : H a = some (.ext (NestObj Y.w a xs))) : OR Y ρ H a (.dcN kvs) := ⟨xs, e, r.to⟩
end
end
end TL
set_option Elab.async false
set_option linter.all false
set_option maxRecDepth 100000
set_option maxHeartbeats 4000000
namespace TL
open PySem PySem.Spec PySem.Calls PyProof PyProof.Rows PySem.W L2 MeetsSeq
end TL
set_option Elab.async false
set_option linter.all false
set_option maxRecDepth 100000
set_option maxHeartbeats 4000000
namespace TL
open PySem PySem.Spec L2 PyProof.Rows
abbrev cellsLT (N : Nat) : List Addr := [N + 4, N + 2, N + 3, N, N + 1]
structure AtLT (N a b n i : Nat) (h : Heap) : Prop where
  z : IsZip h (N + 4) (N + 2) (N + 3) .none
  ti : IsTupOf2 h (N + 2) (.ref N) (.ref (N + 1))
  tout : ∃ u v, IsTupOf2 h (N + 3) u v
  p : h.IsListIter N a i
  q : h.IsTupleIter (N + 1) b i
  le : i ≤ n
theorem AtLT.there {N a b n i : Nat} {h : Heap} (s : AtLT N a b n i h) {k : Addr} (m : k ∈ cellsLT N) : ∃ o, h.get? k = some o ∧ ∀ v, o.data ≠ .cell v := by
  simp only [List.mem_cons, List.not_mem_nil, or_false] at m
  rcases m with rfl | rfl | rfl | rfl | rfl
  · exact ⟨_, s.z, nofun⟩
  · exact ⟨_, s.ti, nofun⟩
  · obtain ⟨u, v, e⟩ := s.tout
    exact ⟨_, e, nofun⟩
  · obtain ⟨o, e, _, d⟩ := s.p
    exact ⟨o, e, fun v y => by rw [d] at y; cases y⟩
  · obtain ⟨o, e, _, d⟩ := s.q
    exact ⟨o, e, fun v y => by rw [d] at y; cases y⟩
end TL
set_option Elab.async false
set_option linter.all false
set_option maxRecDepth 100000
set_option maxHeartbeats 4000000
namespace TL
open PySem PySem.Spec PySem.Calls PyProof PyProof.Rows PySem.W L2
open PySem.SeqAt PySem.W
end TL
set_option Elab.async false
set_option linter.all false
set_option maxRecDepth 100000
set_option maxHeartbeats 4000000
namespace TL
open PySem PySem.Spec L2 PyProof.Rows
end TL
set_option Elab.async false
set_option linter.all false
set_option maxRecDepth 100000
set_option maxHeartbeats 4000000
namespace TL
open PySem PySem.Spec L2
end TL
set_option Elab.async false
set_option linter.all false
set_option maxRecDepth 100000
set_option maxHeartbeats 4000000
namespace TL
open PySem PySem.Spec L2 PyProof.Rows
end TL
set_option Elab.async false
set_option linter.all false
set_option maxRecDepth 100000
set_option maxHeartbeats 4000000
set_option Elab.async false
set_option linter.all false
set_option maxRecDepth 100000
set_option maxHeartbeats 4000000
namespace TL
open PySem PySem.Spec L2
end TL
set_option Elab.async false
set_option linter.all false
set_option maxRecDepth 100000
set_option maxHeartbeats 4000000
namespace TL
open PySem PySem.Spec L2
end TL
set_option Elab.async false
set_option linter.all false
set_option maxRecDepth 100000
set_option maxHeartbeats 4000000
namespace TL
open PySem PySem.Spec L2
end TL
set_option Elab.async false
set_option linter.all false
set_option maxRecDepth 100000
set_option maxHeartbeats 4000000
namespace TL
open PySem PySem.Spec L2
section
variable {X : Cx} {Y : Wd}
def rEqE (K : PySem.W.Frag) : R2 := fun x y H Q => ∃ p q xs, x = .ref p ∧ y = .ref q ∧ SqT K H p xs ∧ SqT K H q [] ∧ Q (.bl xs.isEmpty) H
theorem op_eqE (hu : X.A.units + 80 < cLine) : OpR X (compareOp .Eq) (rEqE X.K) := by
  intro pins s σ H x y v u Q I rx ry h
  obtain ⟨p, q, xs, rfl, rfl, hp, hq, k⟩ := h
  cases rx
  cases ry
  obtain ⟨its, r, ⟨o, ho, hc, n, hd⟩, _⟩ := I.tuple hp
  obtain ⟨its2, r2, ⟨o2, ho2, hc2, n2, hd2⟩, _⟩ := I.tuple hq
  have e2 : its2 = [] := by
    cases r2
    rfl
  subst e2
  have l := r.length
  refine SeqAt.eq_tupleAt (e := fun _ => true) ⟨o, ho, hc, n, hd⟩ ⟨o2, ho2, hc2, n2, hd2⟩ (by omega) (fun j _ h2 => absurd h2 (Nat.not_lt_zero _)) ?_
  have e : ((List.range (min its.toArray.size ([] : List Value).toArray.size)).all (fun _ => true) && its.toArray.size == ([] : List Value).toArray.size) = xs.isEmpty := by
    cases xs with
    | nil =>
      cases its with
      | nil => rfl
      | cons a b => simp at l
    | cons a b =>
      cases its with
      | nil => simp at l
      | cons c d => simp
  rw [e]
  exact ⟨.bl _, H, I, rfl, k⟩
def bEqE : T → T → VH → Res T
  | .tup ts, .tup [], h => .ok (.bl ts.isEmpty) h
  | _, _, _ => .bad
theorem ot_eqE : OT Y (rEqE Y.K) bEqE := fun ρ H t1 t2 v1 v2 h t h' Q r1 r2 hr e to => by
  unfold bEqE at e
  split at e
  · rename_i ts _
    cases e
    cases r1 with
    | tup la rs =>
      cases r2 with
      | tup lb rt =>
        cases rt
        have l := rs.length
        refine ⟨_, _, _, rfl, rfl, la.sq, lb.sq, ?_⟩
        have q := to.to ρ H _ .refl hr (.bl _)
        have e : ∀ {ts : List T} {vs : List V}, Rps Y ρ H ts vs → vs.isEmpty = ts.isEmpty := fun r => by cases r <;> rfl
        rw [e rs]
        exact q
  · cases e
end
end TL
set_option Elab.async false
set_option linter.all false
set_option maxRecDepth 100000
set_option maxHeartbeats 4000000
namespace TL
open PySem PySem.Spec L2
end TL
set_option Elab.async false
set_option linter.all false
set_option maxRecDepth 100000
set_option maxHeartbeats 4000000
namespace TL
open PySem PySem.Spec L2 PyProof.Rows
end TL
set_option Elab.async false
set_option linter.all false
set_option maxRecDepth 100000
set_option maxHeartbeats 4000000
namespace TL
open PySem PySem.Spec L2 PyProof.Rows
/-- a clause: its class, its slot, what its suite makes -/
abbrev Cla := Value × Nat × (Addr → Value → Option Addr → TS)
/-- what the clauses wish: one of them takes it -/
def wNamed (K : PySem.W.Frag) (D : Ends) (l : List Cla) : WX := l.foldr (fun q W => wAs K q.1 q.2.1 q.2.2 W D) fun _ _ _ _ => False
section
variable {X : Cx}
inductive Clauses (X : Cx) : List ExceptHandler → List Cla → Prop
  | one {x n : Str} {c : Value} {i : Nat} {ts : Addr → Value → Option Addr → TS} {b₀ : Stmt} {suite : List Stmt} {p q : Pos} {hds : List ExceptHandler} {l : List Cla} (hi : X.N[i]? = some n) (hk : X.env.kindOf n = some .local) (hc : Names X x c)
      (body : ∀ (a : Addr) (oe : Obj) (cls : Value) (d : Option Addr) (pn : List (Addr × Obj)), Zc cls d oe → (∃ vs, oe.data = .fields vs) → PSs (X.suite a ((a, oe) :: pn)) (b₀ :: suite) (ts a cls d)) (more : Clauses X hds l) :
      Clauses X (.ExceptHandler (some (.Name x p)) (some n) (b₀ :: suite) q :: hds) ((c, i, ts) :: l)
  | end_ : Clauses X [] []
/-- caught: the exception lies at a, all else is as it was -/
structure Caught (X : Cx) (pins : List (Addr × Obj)) (σ : St) (H : Hp) (B : Heap) (a : Addr) (cls : Value) (d : Option Addr) (s : Shared) : Prop where
  inv : Inv X pins σ H s
  fly : HandSPX.FlyingZ B (X.env :: X.outer) a (Zc cls d) s.heap
  free : H a = none
  back : ∀ h', B.StaysIn h' → s.heap.UpToSlots h' → Inv X pins σ H { s with heap := h' }
theorem Caught.pinned {pins : List (Addr × Obj)} {σ : St} {H : Hp} {B : Heap} {a : Addr} {cls : Value} {d : Option Addr} {s : Shared} (C : Caught X pins σ H B a cls d s) (hf : X.env.frame = some X.env.locals) :
    ∃ oe, Zc cls d oe ∧ (∃ vs, oe.data = .fields vs) ∧ s.heap.get? a = some oe ∧ Inv (X.suite a ((a, oe) :: (X.pn ++ pins))) [] σ H s := by
  obtain ⟨oe, vs, at_, z, dt⟩ := C.fly.there
  have off : a ∉ frs (X.env :: X.outer) := fun m => by
    obtain ⟨_, o', e', no⟩ := C.fly.2.2.1.mem m
    cases at_.symm.trans e'
    exact no _ dt
  refine ⟨oe, z, ⟨vs, dt⟩, at_, C.inv.suite at_ dt C.free (fun z => off (List.mem_filterMap.mpr ⟨X.env, .head _, by rw [hf, z]⟩)) fun m => ?_⟩
  obtain ⟨e, he, q⟩ := List.mem_filterMap.mp m
  exact off (List.mem_filterMap.mpr ⟨e, .tail _ he, q⟩)
/-- behind a suite, the clause's name is gone -/
theorem clause_end {pins pn : List (Addr × Obj)} {a : Addr} {i : Nat} {n : Str} {q : Pos} {D : Ends} {f : Flow} {s : Shared} (hN : X.N.Nodup) (hi : X.N[i]? = some n) (hk : X.env.kindOf n = some .local) {oe : Obj} (ok : X.Ok)
    (h : SP (X.suite a ((a, oe) :: (X.pn ++ pins))) pn { nx := fun σ H => D.nx (σ.set i none) H, rt := D.rt, bk := fun σ H => D.bk (σ.set i none) H, ct := fun σ H => D.ct (σ.set i none) H } f s) :
    wpAny (model X.prog X.w) X.A (do bindName X.env n .none; unbindBehindTheSuite X.env n q) (fun _ s' => SP X pins D f s') X.xe s := by
  cases f with
  | next => obtain ⟨σ1, H1, J, z⟩ := h; exact gone_ok (J.unsuite ok) hN hi hk fun s' J' => ⟨_, _, J', z⟩
  | brk => obtain ⟨σ1, H1, J, z⟩ := h; exact gone_ok (J.unsuite ok) hN hi hk fun s' J' => ⟨_, _, J', z⟩
  | cont => obtain ⟨σ1, H1, J, z⟩ := h; exact gone_ok (J.unsuite ok) hN hi hk fun s' J' => ⟨_, _, J', z⟩
  | ret u => obtain ⟨v, σ1, H1, J, r, z⟩ := h; exact gone_ok (J.unsuite ok) hN hi hk fun s' J' => ⟨_, _, _, J', r, z⟩
theorem clauses_ok {pins : List (Addr × Obj)} {σ : St} {H : Hp} {B : Heap} {a : Addr} {cls : Value} {d : Option Addr} {D : Ends} (hf : X.env.frame = some X.env.locals) (hN : X.N.Nodup) {hds : List ExceptHandler} {l : List Cla} (k : Clauses X hds l) :
    ∀ {s : Shared}, Caught X pins σ H B a cls d s → wNamed X.K D l cls d σ H → wpAny (model X.prog X.w) X.A (handleBy (.ref a) X.env hds) (SP X pins D) X.xe s := by
  induction k with
  | end_ => exact fun _ w => w.elim
  | @one x n c i ts b₀ suite p q hds l hi hk hc body more ih =>
    intro s C w
    obtain ⟨b, is, yes, no⟩ := w
    obtain ⟨oe, z, dt, at_, J⟩ := C.pinned hf
    refine wpAny_handleBy_cons (codeAny_handlers_test ?_) (by intro q; cases q)
    have go : ∀ {Q : Value → Shared → Prop} {E : Value → Shared → Prop}, Q c s → wpAny (model X.prog X.w) (X.A.mark (some (.ref a))) (eval (.Name x p) X.env) Q E s := fun {Q E} t => by
      rcases hc with ⟨g, nd, m | ⟨m, v, nn⟩⟩
      · exact ld_glob (X := X.suite a ((a, oe) :: (X.pn ++ pins))) J g m t nd
      · exact ld_blt (X := X.suite a ((a, oe) :: (X.pn ++ pins))) J g m v t nn nd
    refine go ((PySem.W.exm_one (M := model X.prog X.w) C.inv.kIn (fun A Q E s' k' t => wpAny_typeOf_ref (k' _ _ at_) (by rw [z.1]; exact t)) is).here ?_)
    cases b with
    | false => exact ih C (no rfl)
    | true =>
      refine codeAny_handlers_suite_as (HandSPX.lands_againZ C.fly fun h' fl up => ?_)
      have C' : Caught X pins σ H B a cls d { s with heap := h' } := ⟨C.back h' fl.1 up, fl, C.free, fun h2 st u2 => C.back h2 st (up.trans u2)⟩
      obtain ⟨oe', z', dt', at', J'⟩ := C'.pinned hf
      refine store_ok (X := X.suite a ((a, oe') :: (X.pn ++ pins))) (v := .ref a) J' hN hi (.inl hk) rfl (fun s5 J5 => ?_) (.inr hk)
      exact wpAny_mono ((body a oe' cls d (X.pn ++ pins) z' dt').run [] s5 _ H _ J5 (yes rfl a C.free)) (fun f s6 r => clause_end hN hi hk C.inv.ok r) fun _ _ z => z.elim
/-- try: body / except A as n: .. / except B as n: .. -/
theorem ps_try_named {body : List Stmt} {h₀ : ExceptHandler} {hds : List ExceptHandler} {l : List Cla} {pos : Pos} {tb : WX → TS} (hs : X.stack = X.env :: X.outer) (hf : X.env.frame = some X.env.locals) (hN : X.N.Nodup)
    (hb : ∀ (W : WX) (pn : List (Addr × Obj)) (xe : Value → Shared → Prop), Takes (X.tr pn xe) W → PassesOwn (model X.prog X.w) X.A X.env xe → PSs (X.tr pn xe) body (tb W)) (hh : Clauses X (h₀ :: hds) l) :
    PS X (.Try body (h₀ :: hds) [] [] pos) (fun D σ H => tb (fun cls d σ' H' => σ'.length = X.N.length → wNamed X.K D l cls d σ' H') D σ H) := by
  refine ⟨fun pins s σ H D I h => wpAny_Try_except ?_⟩
  have fr : X.A.frames = some (X.env :: X.outer) := I.ok.frames.trans (congrArg some hs)
  refine wpAny_mono ((hb (fun cls d σ' H' => σ'.length = X.N.length → wNamed X.K D l cls d σ' H') (X.pn ++ pins) (fun e s₁ => wpAny (model X.prog X.w) X.A (noteFrame e X.env) (fun _ s₂ => wpAny (model X.prog X.w) X.A (setFlight e none) (fun _ s₃ =>
    wpAny (model X.prog X.w) X.A (handleBy e X.env (h₀ :: hds)) (SP X pins D) X.xe s₃) X.xe s₂) X.xe s₁) ?_ PassesOwn.looking).run [] s σ H D (I.toTry _) h) (fun f s1 r => ?_) fun _ _ z => z
  · rintro u s' ⟨a, B, sI, pins', σ', H', cls, d, rfl, J', nb, up, sky, na, os, ag, w⟩
    have J := J'.ofTry I.ok
    show wpAny (model X.prog X.w) X.A (noteFrame (.ref a) X.env) _ _ _
    refine Sky.land (outer := X.outer) Zc.steady fr hf (by rw [← hs]; exact sky) fun h3 fl up3 => ?_
    have b0 : ∀ h', B.StaysIn h' → h3.UpToSlots h' → Inv X pins σ' H' { s' with heap := h' } := fun h' st u => J.landed nb st ((up.trans up3).trans u) os ag
    exact clauses_ok hf hN hh ⟨J.landed nb fl.1 (up.trans up3) os ag, fl, na, b0⟩ (w J.len)
  · have r' : SP X pins D f s1 := by
      cases f with
      | next => obtain ⟨σ', H', J, z⟩ := r; exact ⟨σ', H', J.ofTry I.ok, z⟩
      | brk => obtain ⟨σ', H', J, z⟩ := r; exact ⟨σ', H', J.ofTry I.ok, z⟩
      | cont => obtain ⟨σ', H', J, z⟩ := r; exact ⟨σ', H', J.ofTry I.ok, z⟩
      | ret u => obtain ⟨v, σ', H', J, y, z⟩ := r; exact ⟨v, σ', H', J.ofTry I.ok, y, z⟩
    cases f with
    | next => exact wpAny_execs_nil r'
    | brk => exact r'
    | cont => exact r'
    | ret u => exact r'
end
end TL
set_option Elab.async false
set_option linter.all false
set_option maxRecDepth 100000
set_option maxHeartbeats 4000000
namespace TL
open PySem PySem.Spec L2 PyProof.Rows LamX
/-- the table at P and the code object at c', before (H) and behind (H1) -/
def LamIn (H : Hp) (P c' : Addr) (q : Str) (ps : Array Value) (H1 : Hp) : Prop := H c' = none ∧ ∃ (more : Array Value), H1 = upd (upd H P (.tbl (ps ++ more))) c' (CodeO c' q) ∧ TriplesOk (ps ++ more).toList ∧
  ∀ (pos : Pos) (cv : Value), codeAmong pos (ps ++ more).toList = some cv → codeAmong pos ps.toList = some cv ∨ cv = .ref c'
section
variable {X : Cx} {Y : Wd}
/-- what is known of a lambda at hand: f its object, c' its code -/
structure LamIs (X : Cx) (params : Arguments) (body : Expr) (scope : Scope) (pm ctv : Value) (f c' : Addr) (H : Hp) (s : Shared) : Prop where
  at_ : s.heap.get? f = some (PySem.W.kla_obj "<lambda>" (X.env.qual ++ "<lambda>") params body scope (cloFrom X.env.cells scope.names []) pm c' ctv)
  new : H f = none
  off : f ∉ frs X.stack
  code : H c' = some (CodeO c' (X.env.qual ++ "<lambda>"))
theorem young {pins : List (Addr × Obj)} {σ : St} {H : Hp} {s : Shared} {f : Addr} (I : Inv X pins σ H s) (h : s.heap.objs.size ≤ f) : f ∉ frs X.stack := fun m => by
  obtain ⟨_, _, e, _⟩ := I.stack.mem m
  exact absurd (Heap.lt_size e) (Nat.not_lt.mpr h)
theorem lam_made {pins : List (Addr × Obj)} {σ : St} {H : Hp} {s : Shared} {c P : Addr} {params : Arguments} {body : Expr} {scope : Scope} {pos : Pos} {E : Value → Shared → Prop} {Q : Value → Shared → Prop} {ps : Array Value} (I : Inv X pins σ H s)
    (TB : TabB X.base X.mg c P) (hcode : X.env.code = .ref c) (hP : H P = some (.tbl ps)) (ht : TriplesOk ps.toList) (ha : ∀ (pos : Pos) (cv : Value), codeAmong pos ps.toList = some cv → ∃ c', cv = .ref c' ∧ H c' = some (CodeO c' (X.env.qual ++ "<lambda>")))
    (hdef : defaultsOf params X.env = ([], [])) (hfree : ∀ y ∈ scope.names, y.2 = .free → ∃ c, X.env.cells.lookup y.1 = some c)
    (h : ∀ (f c' : Addr) (pm ctv : Value) (H1 : Hp) (s' : Shared), Inv X pins σ H1 s' → (H1 = H ∨ LamIn H P c' (X.env.qual ++ "<lambda>") ps H1) → LamIs X params body scope pm ctv f c' H1 s' → Q (.ref f) s') :
    wpAny (model X.prog X.w) X.A (eval (.Lambda params body scope pos) X.env) Q E s := by
  have oP : s.heap.get? P = some { cls := .none, data := .fields ps } := I.hok P _ hP
  have glob := I.mod.glob.keeps I.bk
  have code := TB.code.keeps I.bk
  have blt := TB.bm.keeps I.bk
  refine PySem.W.kla_eval hdef ?_
  rcases hk : codeAmong pos ps.toList with _ | cv
  · refine PySem.W.kla_makeFunction (closure_ok hfree) I.ok.glob glob hcode code oP ht hk TB.gP blt fun c' ctv h' tk ext ge lt rec tab => ?_
    obtain ⟨c2, oc, us, t, e2, r1, r2, r3⟩ := rec
    obtain rfl := Value.ref.inj e2
    have nC : H c' = none := I.hok.fresh ge
    have nP : c' ≠ P := fun z => by rw [z, hP] at nC; cases nC
    have big : s.heap.objs.size ≤ h'.objs.size := Nat.le_trans ge (Nat.le_of_lt lt)
    have eL : (ps ++ #[rawInt pos.line, rawInt pos.col, .ref c']).toList = ps.toList ++ [rawInt pos.line, rawInt pos.col, .ref c'] := by simp
    have J := inv_table (t' := tk) (more := #[rawInt pos.line, rawInt pos.col, .ref c']) (q := X.env.qual ++ "<lambda>") I hP
      (h' := h'.push (PySem.W.kla_obj "<lambda>" (X.env.qual ++ "<lambda>") params body scope (cloFrom X.env.cells scope.names []) ((X.mg "__name__").getD .none) c' ctv))
      (fun b o ne e => Heap.get?_push_of_some _ (ext b o ne e)) (Heap.get?_push_of_some _ tab) ge ⟨oc, us, t, Heap.get?_push_of_some _ r1, r2, r3⟩
    refine h h'.objs.size c' _ ctv _ _ J (.inr ⟨nC, _, rfl, ?_, fun p cv e => ?_⟩) ⟨Heap.get?_push_size _ rfl, ?_, young I big, upd_same⟩
    · rw [eL]; exact PySem.TriplesOk_snoc _ _ _ _ ht
    · rw [eL] at e; exact among_app _ ht e
    · rw [upd_ne (Nat.ne_of_gt lt), upd_ne (Nat.ne_of_gt (Nat.lt_of_lt_of_le (Heap.lt_size oP) big))]
      exact I.hok.fresh big
  · obtain ⟨c', rfl, known⟩ := ha pos cv hk
    exact PySem.W.kla_makeFunctionHit (closure_ok hfree) I.ok.glob glob hcode code oP ht hk blt fun ctv h' tk ext big =>
      h h'.objs.size c' _ ctv H _ (I.kept fun b o e => Heap.get?_push_of_some _ (ext b o e)) (.inl rfl) ⟨Heap.get?_push_size _ rfl, I.hok.fresh big, young I big, known⟩
/-- each table has one name -/
def TbInj (Y : Wd) : Prop := ∀ z z' P, Y.tb z = some P → Y.tb z' = some P → z = z'
theorem tbInj_of {w' : World} {cl : ClT} {K : PySem.W.Frag} {tl : List (Str × He.Defn)} (nd : (tl.map fun p => (He.cT K p.2).2).Nodup) : TbInj (wdOf w' cl K tl) := fun z z' P e e' => by
  have get : ∀ y, (wdOf w' cl K tl).tb y = some P → ∃ (i : Nat) (p : Str × He.Defn), tl[i]? = some p ∧ p.1 = y ∧ (He.cT K p.2).2 = P := fun y e => by
    have e : (tl.lookup y).map (fun p => (He.cT K p).2) = some P := e
    rw [Option.map_eq_some_iff] at e
    obtain ⟨d, hd, hP⟩ := e
    obtain ⟨i, hi⟩ := List.getElem?_of_mem (lookup_mem2 hd)
    exact ⟨i, (y, d), hi, rfl, hP⟩
  obtain ⟨i, p, hi, e1, e2⟩ := get z e
  obtain ⟨j, q, hj, e3, e4⟩ := get z' e'
  obtain ⟨li, gi⟩ := List.getElem?_eq_some_iff.mp hi
  obtain ⟨lj, gj⟩ := List.getElem?_eq_some_iff.mp hj
  have ij : i = j := (List.getElem_inj (i := i) (j := j) (h₀ := by rw [List.length_map]; exact li) (h₁ := by rw [List.length_map]; exact lj) nd).mp (by rw [List.getElem_map, List.getElem_map, gi, gj, e2, e4])
  subst ij
  rw [hi] at hj
  cases hj
  rw [← e1, ← e3]
theorem tb_mem {w' : World} {cl : ClT} {K : PySem.W.Frag} {tl : List (Str × He.Defn)} {q : Str} {P : Addr} (e : (wdOf w' cl K tl).tb q = some P) : P ∈ (tl.map fun p => (p.1, (He.cT K p.2).2)).map (·.2) := by
  have e : (tl.lookup q).map (fun p => (He.cT K p).2) = some P := e
  rw [Option.map_eq_some_iff] at e
  obtain ⟨d, hd, rfl⟩ := e
  exact List.mem_map.mpr ⟨_, List.mem_map.mpr ⟨_, lookup_mem2 hd, rfl⟩, rfl⟩
/-- the small heap behind it -/
theorem lam_hr {ρ : Rh} {H H1 : Hp} {h : VH} {P c' : Addr} {q : Str} {ps : Array Value} (r : HR Y ρ H h) (inj : TbInj Y) (hq : Y.tb q = some P) (hP : H P = some (.tbl ps)) (g : H1 = H ∨ LamIn H P c' q ps H1) : Ev ρ H ρ H1 ∧ HR Y ρ H1 h := by
  rcases g with rfl | ⟨nC, more, rfl, tri, am⟩
  · exact ⟨.refl, r⟩
  · have nPc : P ≠ c' := ne_of_none hP nC
    obtain ⟨oP, ps0, e0, t0, k0⟩ := r.tb q P hq
    rw [hP] at e0; cases e0
    obtain ⟨H1, hH1⟩ : ∃ H1 : Hp, H1 = upd (upd H P (.tbl (ps ++ more))) c' (CodeO c' q) := ⟨_, rfl⟩
    rw [← hH1]
    have atP : H1 P = some (.tbl (ps ++ more)) := by rw [hH1, upd_ne nPc, upd_same]
    have atC : H1 c' = some (CodeO c' q) := by rw [hH1, upd_same]
    have other : ∀ b, b ≠ P → b ≠ c' → H1 b = H b := fun b h1 h2 => by rw [hH1, upd_ne h2, upd_ne h1]
    have old : ∀ b, b ≠ P → H b ≠ none → H1 b = H b := fun b h1 h2 => other b h1 fun z => h2 (z.symm ▸ nC)
    have there : ∀ b, H b ≠ none → H1 b ≠ none := fun b n => by
      by_cases z : b = P
      · rw [z, atP]; simp
      · rw [old b z n]; exact n
    have ev : Ev ρ H ρ H1 := by
      refine .mk' ⟨[], by simp⟩ rfl (fun b o e _ nt => ?_) there (fun b o u e => ?_)
      · rw [old b (fun z => nt ps (by rw [z, hP] at e; exact (Option.some.inj e).symm)) (by rw [e]; simp)]; exact e
      · rw [old b (fun z => by rw [z, hP] at e; cases e) (by rw [e]; simp)]; exact e
    refine ⟨ev, ?_⟩
    constructor
    · exact r.len
    · exact r.nd
    · exact fun a ha => ⟨there a (r.bt a ha).1, (r.bt a ha).2⟩
    · intro a ha xs z
      rw [old a (fun e => oP.2 (e ▸ ha)) (r.bt a ha).1] at z
      exact r.bl a ha xs z
    · intro n o a h1 h2
      have m := List.mem_of_getElem? h2
      exact (r.at_ n o a h1 h2).same ev.toEvR (old a (fun e => oP.1 (e ▸ m)) (r.there m))
    · intro z a e
      have keepC : ∀ c nm, ρ.out c → H c = some (CodeO c nm) → ρ.out c ∧ H1 c = some (CodeO c nm) := fun c nm oc hc => ⟨oc, by
        rw [old c (fun e => by rw [e, hP] at hc; exact codeO_ne ps (Option.some.inj hc).symm) (by rw [hc]; simp)]; exact hc⟩
      by_cases eP : a = P
      · subst eP
        obtain rfl := inj _ _ _ e hq
        refine ⟨oP, ps ++ more, atP, tri, fun pos cv hc => ?_⟩
        rcases am pos cv hc with y | y
        · obtain ⟨c0, e1, o1, k1⟩ := k0 pos cv y
          exact ⟨c0, e1, keepC c0 z o1 k1⟩
        · exact ⟨c', y, r.outof nC, atC⟩
      · obtain ⟨oa, t⟩ := r.tb z a e
        exact ⟨oa, t.to (old a eP t.some) fun c oc hc => keepC c z oc hc⟩
end
end TL
set_option Elab.async false
set_option linter.all false
set_option maxRecDepth 100000
set_option maxHeartbeats 4000000
namespace TL
open PySem PySem.Spec L2 PyProof.Rows LamX
/-- what an outcome must do -/
def RX (Y : Wd) (ρ : Rh) (H : Hp) (r : ResX) (Q : VK) (E : XK) : Prop := match r with
  | .ok t h' => To Y (Rp Y) ρ H t h' Q
  | .xc c fs h' => XcTo Y ρ H c fs h' fun _ H' cls d => E cls d H'
  | .bad => False
def tCat (Y : Wd) (cat : ResX → Res T) : (XK → Hp → VK → Prop) → Hp → VK → Prop := fun tl H Q => ∃ ρ r t h', (∀ E Q', RX Y ρ H r Q' E → tl E H Q') ∧ cat r = .ok t h' ∧ To Y (Rp Y) ρ H t h' Q
/-- the caught ones by their names, with what they have; d: what is told of all else -/
def catTold (l : List (Nat × Str)) (d : Option T) : ResX → Res T
  | .ok t h => .ok (d.getD t) h
  | .xc c [t] h => (match l.lookup c with
    | some nm => .ok (.tup [.str nm, t]) h
    | none => .bad)
  | _ => .bad
def exAd (K : PySem.W.Frag) (k : Nat) : Addr := (exC K k).getD 0
def exFd (k : Nat) : Str := (exFn k).headD ""
def tsTold (nm fld : Str) (j : Nat) (C : Addr) : Addr → Value → Option Addr → TS := fun a cls d => tRet (tTup (tCons (tC (.str nm)) (tCons (tXf a cls d C fld (tVar j)) tNil)))
def claTold (K : PySem.W.Frag) (j : Nat) (l : List (Nat × Str)) : List Cla := l.map fun q => (.ref (exAd K q.1), j, tsTold q.2 (exFd q.1) j (exAd K q.1))
section
variable {X : Cx} {Y : Wd}
/-- except A as n: return ("A", n.f) -/
theorem clauseTold {j k : Nat} {x n nm fld : Str} {p p1 p2 p3 p5 q : Pos} {p4 : Pos} {k1 : Nat} {x1} {hds : List ExceptHandler} {l : List (Nat × Str)} (T : XfC X.K (exAd X.K k)) (hno : PySem.W.findIn X.K (.ref (exAd X.K k)) fld = some none) (hf : exFd k = fld) (hc : Names X x (.ref (exAd X.K k)))
    (hi : X.N[j]? = some n) (hk : X.env.kindOf n = some .local) (more : Clauses X hds (claTold X.K j l)) (hd : (n == ("__debug__" : Str)) = false := by decide) (hcd : (n == ("__classdict__" : Str)) = false := by decide) :
    Clauses X (.ExceptHandler (some (.Name x p)) (some n) [.Return (some (.Tuple [.Constant (.str nm) k1 p1, .Attribute (.Name n p2) fld p3] x1 p4)) p5] q :: hds) (claTold X.K j ((k, nm) :: l)) := by
  subst hf
  refine .one hi hk hc (fun a oe cls d pn z dt => ?_) more
  exact pss_one (ps_ret (pe_tup (pa_cons pe_str (pa_cons (pe_xf T hno z dt (pe_var (X := X.suite a ((a, oe) :: pn)) hi (.inl hk) hd hcd)) pa_nil))))
/-- the exceptions' classes lie apart -/
def Apart (K : PySem.W.Frag) (l : List (Nat × Str)) : Prop := ∀ c C, exC K c = some C → (l.lookup c).isSome = true → ∀ q ∈ l, PySem.W.exmOne K (.ref C) (.ref (exAd K q.1)) = some (q.1 == c)
theorem told_wish {K : PySem.W.Frag} {D : Ends} {j c : Nat} {nm : Str} {C : Addr} {d : Option Addr} {σ : St} {H : Hp} (hc : exC K c = some C) : ∀ {l : List (Nat × Str)}, (∀ q ∈ l, PySem.W.exmOne K (.ref C) (.ref (exAd K q.1)) = some (q.1 == c)) → l.lookup c = some nm →
    (∀ a, H a = none → tsTold nm (exFd c) j C a (.ref C) d { nx := fun σ' H' => D.nx (σ'.set j none) H', rt := D.rt, bk := fun σ' H' => D.bk (σ'.set j none) H', ct := fun σ' H' => D.ct (σ'.set j none) H' } (σ.set j (some (.ref a))) H) →
    wNamed K D (claTold K j l) (.ref C) d σ H
  | [], _, e, _ => by cases e
  | (k, m) :: l, ap, e, w => by
    refine ⟨k == c, ap _ (.head _), fun z a ha => ?_, fun z => ?_⟩
    · obtain rfl : k = c := by simpa using z
      rw [List.lookup_cons_self] at e
      cases e
      have q := w a ha
      have hC : exAd K k = C := by unfold exAd; rw [hc]; rfl
      rw [← hC] at q ⊢
      exact q
    · rw [List.lookup_cons] at e
      have z' : (c == k) = false := by
        have : ¬ k = c := by simpa using z
        simp [Ne.symm this]
      rw [z'] at e
      exact told_wish hc (fun q hq => ap q (.tail _ hq)) e w
theorem vfs_one {Y : Wd} {ρ : Rh} {H : Hp} {c : Nat} {t : T} {vfs : List (Str × V)} (e : vfs.map (·.1) = (exFn c).take 1) (r : Rps Y ρ H [t] (vfs.map (·.2))) : ∃ v, vfs = [(exFd c, v)] ∧ Rp Y ρ H t v := by
  match vfs, e, r with
  | [(f, v)], e, r =>
    cases r with
    | cons r1 _ =>
      refine ⟨v, ?_, r1⟩
      unfold exFd
      cases q : exFn c with
      | nil => rw [q] at e; cases e
      | cons a b => rw [q] at e; simp at e; rw [e]; rfl
  | (f, v) :: b :: m, e, r => cases r with
    | cons _ r2 => cases r2
/-- behind what was caught -/
theorem told_end {ρ : Rh} {H : Hp} {c j n : Nat} {nm : Str} {t t' : T} {h h' : VH} {l : List (Nat × Str)} {dv : Option T} {D : Ends} (ap : Apart Y.K l) (sh : ∀ q ∈ l, q.2.length ≤ 1000000) (hj : j < n) (e : catTold l dv (.xc c [t] h) = .ok t' h') (to : To Y (Rp Y) ρ H t' h' D.rt) :
    XcTo Y ρ H c [t] h fun _ H' cls d => ∀ σ' : St, σ'.length = n → wNamed Y.K D (claTold Y.K j l) cls d σ' H' := by
  intro ρ' H' C d vfs ev hr hC hd names rs σ' hl
  unfold catTold at e
  cases q : l.lookup c with
  | none => simp only [q] at e; cases e
  | some nm =>
    simp only [q] at e
    cases e
    obtain ⟨v, rfl, rv⟩ := vfs_one names rs
    refine told_wish hC (ap c C hC (by rw [q]; rfl)) q fun a ha => ?_
    refine ⟨.ref a, List.getElem?_set_self (by rw [hl]; exact hj), rfl, rfl, d, _, v, rfl, hd, by simp, (show 2 ≤ sizeLine by rw [sizeLine_eq]; decide), fun p hp => ?_⟩
    have rs2 : Rps Y ρ' H' [.str nm, t] [.str nm, v] := .cons (.str (sh _ (lookup_mem2 q))) (.cons rv .nil)
    obtain ⟨n1, n2⟩ := newT hr rs2 (show 2 ≤ sizeLine by rw [sizeLine_eq]; decide) hp
    exact to.to ρ' _ _ (ev.trans (Ev.new hp)) n1 n2
end
end TL
set_option Elab.async false
set_option linter.all false
set_option maxRecDepth 100000
set_option maxHeartbeats 4000000
namespace TL
open PySem PySem.Spec L2
open PySem.W PySem.Calls PyProof.Rows HandSHeadRun
end TL
set_option Elab.async false
set_option linter.all false
set_option maxRecDepth 100000
set_option maxHeartbeats 4000000
namespace TL
open PySem PySem.Spec L2 PyProof.Rows LamX
section
variable {P : Program} {w : World} {K : PySem.W.Frag} {mg : Str → Option Value} {base : Heap} {Y : Wd} {k : Nat} {f : Addr} {fd : FuncData} {ps N : List Str} {x qual : Str} {params : Arguments} {body : List Stmt} {scope : Scope} {kws : List (Str × V)} {g : MS}
theorem fnQT (F : FunD K x qual params body scope [] kws f fd) (S : FnScope N ps scope) (n p : Nat) (hn : N.length = n := by rfl) (hp : ps.length = p := by rfl)
    (hb : ∀ c : Addr, fd.code = .ref c → ∀ (A : Around) (outer : List Env) (s : Shared) (H : Hp) (E : XK), Quiet (A.deeper (envOfC qual scope s.heap.objs.size f (.ref c))) → Room k (A.deeper (envOfC qual scope s.heap.objs.size f (.ref c))) →
      PSs (cxOf CX0 P w K mg base N qual scope f (.ref c) A outer s H E).nox body (TMS Y g)) : FnQ P w K mg base Y (k + 1) f fd ps (defM n p g) := by
  subst hn hp
  refine ⟨fun ts h t h' e => defM_many e, fun A quiet hr outer s H e0 args us vs bound r Q q => ?_⟩
  obtain ⟨oc, od, dV, kV, doc, pm, an, cdv, ct, osl, rfl, lk, hcd, _⟩ := F.ex
  obtain ⟨c, rfl⟩ := He.codeIn_ref hcd
  exact run_ofS lk hcd S hr e0 bound r (spM_many (fun _ _ _ _ e => defM_many e) q) fun hr' => ⟨TMS Y g, (hb c rfl A outer s H E0 quiet hr').nox, tms_start q⟩
/-- the table of the def p, of whose code object c is told -/
theorem tabAt {p : He.Defn} {dvs : List V} (F : FunD K x qual params body scope dvs kws (He.fAd K p) fd) {c : Addr} (e : fd.code = .ref c) (T : TabB base mg (He.cT K p).1 (He.cT K p).2) : TabB base mg c (He.cT K p).2 := by
  obtain ⟨oc, od, dV, kV, doc, pm, an, cdv, ct, osl, _, lk, _⟩ := F.ex
  exact He.codeOf_eq lk e ▸ T
end
section
variable {X : Cx} {Y : Wd}
/-- x(lambda: e): what the def x makes of what e gives -/
def eLam (cat : ResX → Res T) (f : MEX) : ME := fun τ h => cat (f τ h)
theorem xLam {x a : Str} {g c P : Addr} {k : Nat} {pg : Arguments} {bg : List Stmt} {sg : Scope} {fd : FuncData} {Ng : List Str} {params : Arguments} {body : Expr} {scope : Scope} {cat : ResX → Res T} {f : MEX} {p lpos pos : Pos} (hg : Gl X x) (hm : X.mg x = some (.ref g)) (F : FunD X.K x x pg bg sg [] [] g fd) (hb : L2.Binds X.K fd [a] [])
    (Sg : FnScope Ng [a] sg) (hNg : Ng[0]? = some a) (hva : Vis sg a) (hG : ∀ cdv : Value, GivesTo X Ng x sg g cdv bg a (X.env.qual ++ "<lambda>") (tCat Y cat)) (TB : TabB X.base X.mg c P) (hcode : X.env.code = .ref c) (inj : TbInj Y) (hY : Y.tb (X.env.qual ++ "<lambda>") = some P) (hr : Room (k + 2) X.A) (L : LamS X.env.scope scope)
    (hdef : defaultsOf params X.env = ([], [])) (hbind : ∀ (q : Str) (cl : List (Str × Addr)) (pm cv ctv : Value), bindArgs (PySem.W.kla_fn "<lambda>" q params body scope cl pm cv ctv) ⟨[], []⟩ = pure [])
    (hbody : ∀ (A : Around) (outer : List Env) (s : Shared) (H : Hp) (E : XK) (f' c' : Addr), Room k (A.deeper (lamEnv X scope s.heap.objs.size f' c')) → PE (lamCx X A outer s H E scope f' c') body (TMXE Y (fun cls d _ H => E cls d H) f))
    (hdb : (x == ("__debug__" : Str)) = false := by decide) (hd : (a == ("__debug__" : Str)) = false := by decide) (hcd : (a == ("__classdict__" : Str)) = false := by decide) :
    PE X (.Call (.Name x p) [.Lambda params body scope lpos] [] pos) (TM Y (eLam cat f)) := by
  constructor
  intro pins s σ H Q I w
  obtain ⟨ρ, τ, h, t, h', G, ec, to⟩ := w
  obtain ⟨oc, od, dV, kV, doc, pm, an, cdv, ct, osl, rfl, lk, hcg, _⟩ := F.ex
  obtain ⟨_, pst, hP, tri, known⟩ := G.hr.tb _ P hY
  refine wpAny_Call_Name_kw (ld_glob I hg hm (PySem.W.callWith_K (h₀ := X.base) I.mod.kin F.kp ?_ rfl rfl) hdb)
  refine Calls.spliced_cons (lam_made I TB hcode hP tri (fun pos cv hc => let ⟨c', e1, _, e2⟩ := known pos cv hc; ⟨c', e1, e2⟩) hdef (L.has I.ok) fun fl c' pm' ctv H1 s1 I1 grown is => Calls.spliced_nil ⟨I1.kIn, ?_⟩)
  obtain ⟨ev, hr1⟩ := lam_hr G.hr inj hY hP grown
  have call : codeAny (model X.prog X.w) X.A (.call (.ref g) ⟨[.ref fl], []⟩) (CR CX0 X.stack X.prog X.w H1 s1 Q E0) s1 := by
    refine run_ofS (vs := [.ref fl]) (us := [.ref fl]) lk hcg Sg hr I1.env0 (hb s1 [.ref fl] I1.kIn rfl) (.cons rfl .nil) rfl fun hr' => ?_
    obtain ⟨tt, run, fin⟩ := hG cdv fl c' s1 H1 Q (fun E H' Q' => TMXE Y (fun cls d _ H => E cls d H) f σ H' Q')
      (fun W pn xe E p1 p2 tk hW => pe_act (i := 0) I1 L is.at_ is.new is.off (hbind _ _ _ _ _) tk hW hr' (fun A outer s H hr2 => hbody A outer s H E fl c' hr2) hNg hva hd hcd)
      is.code ⟨ρ, f τ h, t, h', fun E Q' z => ⟨ρ, τ, h, ⟨G.sl.ev ev.toEvR, hr1⟩, z⟩, ec, to.ev ev⟩
    exact ⟨tt, run.nox, fin⟩
  refine wpAny_call (codeAny_mono call ?_)
  intro r s2 z
  match r, z with
  | .ok (.ret u), z => exact I1.after z
  | .error v, z => exact z.elim
end
end TL
set_option Elab.async false
set_option linter.all false
set_option maxRecDepth 100000
set_option maxHeartbeats 4000000
namespace TL
open PySem PySem.Spec L2 PyProof.Rows LamX
/-- what is told of an outcome: good ends by the rest of the def, caught ones by their names -/
def catOf (l : List (Nat × Str)) (good : T → VH → Out) : ResX → Res T
  | .ok t h => (match good t h with
    | .rt t' h' => .ok t' h'
    | _ => .bad)
  | r => catTold l none r
/-- the context of a def that got a lambda -/
abbrev cxG (X : Cx) (Ng : List Str) (x : Str) (sg : Scope) (g : Addr) (cdg : Value) (s : Shared) (H : Hp) : Cx := (cxOf CX0 X.prog X.w X.K X.mg X.base Ng x sg g cdg X.A X.stack s H E0).nox
section
variable {X : Cx} {Y : Wd}
/-- behind a good end -/
theorem cat_rest {ρ : Rh} {H : Hp} {τ : TS_} {σ : St} {h h' : VH} {t' : T} {gr : MS} {D : Ends} (G : Go Y ρ H τ σ h) (e : gr τ h = .rt t' h') (to : To Y (Rp Y) ρ H t' h' D.rt) : TMS Y gr D σ H := by
  refine ⟨ρ, τ, h, G, ?_⟩
  rw [e]
  exact fun ρ' H' v ev hr r => to.to ρ' H' v ev hr r
theorem sl_none {ρ : Rh} {H : Hp} (σ : St) : Sl Y ρ H (List.replicate σ.length none) σ := ⟨by simp, fun i t e => by
  rw [List.getElem?_replicate] at e
  split at e <;> cases e⟩
/-- the outcome of the call, handed to what stands behind the try -/
theorem cat_rx {ρ : Rh} {H : Hp} {r : ResX} {t' : T} {h' : VH} {l : List (Nat × Str)} {good : T → VH → Out} {D : Ends} {j n : Nat} {Q' : VK} (ap : Apart Y.K l) (sh : ∀ q ∈ l, q.2.length ≤ 1000000) (hj : j < n) (e : catOf l good r = .ok t' h') (to : To Y (Rp Y) ρ H t' h' D.rt)
    (go : ∀ t h ρ1 H1 v, good t h = .rt t' h' → Ev ρ H ρ1 H1 → HR Y ρ1 H1 h → Rp Y ρ1 H1 t v → To Y (Rp Y) ρ1 H1 t' h' D.rt → Q' v H1) : RX Y ρ H r Q' fun cls d H' => ∀ σ' : St, σ'.length = n → wNamed Y.K D (claTold Y.K j l) cls d σ' H' := by
  cases r with
  | bad => cases e
  | ok t h =>
    unfold catOf at e
    simp only at e
    cases q : good t h with
    | rt t2 h2 =>
      rw [q] at e
      cases e
      exact ⟨fun ρ1 H1 v ev hr rv => go t h ρ1 H1 v q ev hr rv (to.ev ev)⟩
    | nx => rw [q] at e; cases e
    | bk => rw [q] at e; cases e
    | ct => rw [q] at e; cases e
    | bad => rw [q] at e; cases e
  | xc c fs h =>
    have e2 : catTold l none (.xc c fs h) = .ok t' h' := e
    match fs, e2 with
    | [t], e2 => exact told_end (nm := "") ap sh hj e2 to
    | [], e2 => cases e2
    | _ :: _ :: _, e2 => cases e2
variable {Ng : List Str} {x a e q : Str} {sg : Scope} {g : Addr} {cdg : Value} {l : List (Nat × Str)} {je : Nat} {h₀ : ExceptHandler} {hds : List ExceptHandler} {rest : List Stmt} {gr : MS} {p1 p2 p3 p4 p5 : Pos}
/-- try: a() / except ..; rest -/
theorem givesA (hK : X.K = Y.K) (nd : Ng.Nodup) (ap : Apart Y.K l) (sh : ∀ q ∈ l, q.2.length ≤ 1000000) (hj : je < Ng.length) (h0 : ∀ f : Addr, (L2.start Ng [V.ref f])[0]? = some (some (V.ref f))) (hl : ∀ f : Addr, (L2.start Ng [V.ref f]).length = Ng.length)
    (cl : ∀ s H, Clauses (cxG X Ng x sg g cdg s H) (h₀ :: hds) (claTold X.K je l)) (hr : ∀ s H, PSs (cxG X Ng x sg g cdg s H) rest (TMS Y gr)) :
    GivesTo X Ng x sg g cdg (.Try [.Expr (.Call (.Name a p1) [] [] p2) p3] (h₀ :: hds) [] [] p4 :: rest) a q (tCat Y (catOf l fun _ h => gr (List.replicate Ng.length none) h)) := by
  intro f c' s H Q tl act hc w
  obtain ⟨ρ, r, t', h', hrx, ec, to⟩ := w
  refine ⟨_, pss_cons (ps_try_named (X := cxG X Ng x sg g cdg s H) (tb := fun W D σ H => ∃ E : XK, (∀ cls d σ' H', E cls d H' → W cls d σ' H') ∧ σ = L2.start Ng [.ref f] ∧ H c' = some (CodeO c' q) ∧ tl E H fun _ H' => D.nx σ H') rfl rfl nd (fun W pn xe tk _ => ?_) (cl s H)) (hr s H), ?_⟩
  · refine ⟨fun pins s' σ H' D I w => ?_⟩
    obtain ⟨E, hW, es, hc', ht⟩ := w
    subst es
    exact (pss_one (ps_expr (pos := p3) (act W pn xe E p1 p2 tk hW))).run pins s' _ H' D I ⟨h0 f, hc', ht⟩
  · refine ⟨fun cls d H' => ∀ σ' : St, σ'.length = Ng.length → wNamed Y.K _ (claTold Y.K je l) cls d σ' H', fun cls d σ' H' z hz => hK ▸ z σ' hz, rfl, hc, hrx _ _ ?_⟩
    exact cat_rx ap sh hj ec to fun t h ρ1 H1 v eg ev hr rv to1 => cat_rest ⟨by rw [← hl f]; exact sl_none _, hr⟩ eg to1
end
section
variable {P : Program} {w : World} {K : PySem.W.Frag} {mg mb : Str → Option Value} {Y : Wd} {k : Nat} {fa a : Addr} {fd : FuncData} {x : Str} {m : List T → VH → Res T} {s : Shared} {vs : List Value} {ns : List Int}
theorem lawQT {tl : List (Str × Addr)} {cs : List (Addr × Addr)} (inK : K.In s.heap) (glo : s.heap.Ns mainGlobals mg) (blt : s.heap.Ns builtinsNs mb) (std : ∀ x : Str, x ≠ "__name__" → mb x = bootBuiltins x) (noLim : s.heap.NoLimit) (noGen : s.gens = #[])
    (ect : cs.map (·.2) = tl.map (·.2)) (hYt : ∀ q P, Y.tb q = some P → P ∈ tl.map (·.2)) (tab0 : ∀ p ∈ cs, s.heap.get? p.2 = some { cls := .none, data := .fields #[] }) (tabK : ∀ p ∈ cs, K.lookup p.2 = none) (hd : ∀ p ∈ cs, PySem.W.CodeHd s.heap p.1 p.2)
    (main : ∃ (bm : Addr) (ob : Obj), mg "__builtins__" = some (.ref bm) ∧ bm ≠ builtinsNs ∧ s.heap.get? bm = some ob ∧ ob.cls = .type "module" ∧ ob.dict = some builtinsNs ∧ ob.data = .plain)
    (at_ : s.heap.get? a = some { cls := .type "list", data := .seq vs.toArray }) (nums : IntsAre vs ns) (few : ns.length ≤ sizeLine) (hr : Room k callerA) (hY : Y.K = K)
    (F : ∀ base : Heap, K.In base → base.Ns mainGlobals mg → (∀ p ∈ cs, TabB base mg p.1 p.2) → FnQ P w K mg base Y k fa fd [x] m) (bind : ∀ (s : Shared) (u : Value), BindsTo s fd ⟨[u], []⟩ [(x, u)]) (law : ∃ h', m [.arg (ns.map T.int)] [] = .ok (.bl true) h') :
    codeAny (model P w) callerA (.call (.ref fa) ⟨[.ref a], []⟩) (fun r s' => r = .ok (.ret (.bool true)) ∧ OldK s.heap s'.heap ∧ s'.os = s.os ∧ AllBare s'.gens) s := by
  obtain ⟨h', law⟩ := law
  obtain ⟨o, ho⟩ : ∃ o : Obj, o = { cls := .type "list", data := .seq vs.toArray } := ⟨_, rfl⟩
  have at_ := ho ▸ at_
  obtain ⟨TS, eTS⟩ : ∃ TS : List Addr, TS = tl.map (·.2) := ⟨_, rfl⟩
  have empty : ∀ b ∈ TS, s.heap.get? b = some { cls := .none, data := .fields #[] } ∧ K.lookup b = none := fun b hb => by
    rw [eTS, ← ect] at hb
    obtain ⟨p, hp, rfl⟩ := List.mem_map.mp hb
    exact ⟨tab0 p hp, tabK p hp⟩
  have aT : a ∉ TS := fun z => by
    have q := (empty a z).1
    rw [at_, ho] at q
    cases congrArg Obj.data (Option.some.inj q)
  -- the tables are tracked, and the script where it is no object of the module
  obtain ⟨H, hH⟩ : ∃ H : Hp, ∀ b, H b = if b ∈ TS then some (.tbl #[]) else if b = a ∧ K.lookup a = none then some (.frz o (.lst (ns.map V.int))) else none := ⟨_, fun b => rfl⟩
  have what : ∀ b u, H b = some u → (b ∈ TS ∧ u = .tbl #[]) ∨ (b = a ∧ K.lookup a = none ∧ u = .frz o (.lst (ns.map V.int))) := fun b u e => by
    rw [hH] at e
    split at e
    · rename_i c; exact .inl ⟨c, (Option.some.inj e).symm⟩
    · split at e
      · rename_i c; exact .inr ⟨c.1, c.2, (Option.some.inj e).symm⟩
      · cases e
  have hT : ∀ b ∈ TS, H b = some (.tbl #[]) := fun b hb => (hH b).trans (if_pos hb)
  have rel := vals_ints nums
  have size : (ns.map V.int).length ≤ sizeLine := by rw [List.length_map]; exact few
  have hok : HOk P w H s.heap := fun b u e => by
    rcases what b u e with ⟨hb, rfl⟩ | ⟨rfl, -, rfl⟩
    · exact (empty b hb).1
    · exact ⟨at_, size, vs, _, rel, ho ▸ at_⟩
  have script : SqL Y.K H a (ns.map V.int) := by
    rw [hY]
    cases lk : K.lookup a with
    | none => exact .inl (.inr ⟨o, ((hH a).trans (if_neg aT)).trans (if_pos ⟨rfl, lk⟩)⟩)
    | some q =>
      obtain rfl : o = q := Option.some.inj (at_.symm.trans (inK a q lk))
      exact .inr ⟨o, vs.toArray, _, lk, by rw [ho], by rw [ho], by rw [ho], by rw [List.size_toArray, ← rel.length]; exact size, rel⟩
  -- what is neither a list nor an empty record is not tracked
  have free : ∀ {b : Addr} {q : Obj}, s.heap.get? b = some q → (∀ us n, q.data ≠ .seq us n) → q.data ≠ .fields #[] → H b = none := fun {b q} e n1 n2 => by
    cases z : H b with
    | none => rfl
    | some u =>
      rcases what b u z with ⟨hb, -⟩ | ⟨rfl, -, -⟩
      · rw [(empty b hb).1] at e
        obtain rfl := Option.some.inj e
        exact absurd rfl n2
      · rw [at_, ho] at e
        obtain rfl := Option.some.inj e
        exact absurd rfl (n1 _ _)
  have names : ∀ {L : Addr} {f : Str → Option Value}, s.heap.Ns L f → (hidT s.heap H).Ns L f := fun {L f} ⟨q, es, ep, e, d, r⟩ =>
    ⟨q, es, ep, hidT_get e (free e (fun us n z => by rw [d] at z; cases z) fun z => by rw [d] at z; cases z), d, r⟩
  have inB : K.In (hidT s.heap H) := fun b q e => by
    refine hidT_get (inK b q e) ?_
    cases z : H b with
    | none => rfl
    | some u =>
      rcases what b u z with ⟨hb, -⟩ | ⟨rfl, lk, -⟩
      · rw [(empty b hb).2] at e; cases e
      · rw [lk] at e; cases e
  have env : Env0 P w K mg (hidT s.heap H) callerA [] s H := by
    constructor
    · rfl
    · exact ⟨inB, names glo, ⟨mb, names blt, std⟩, let ⟨mc, l1, l2⟩ := noLim; ⟨mc, names l1, l2⟩⟩
    · exact fun b q e => of_hidT e
    · exact Nat.le_of_eq (hidT_size s.heap H)
    · trivial
    · intro b hb; cases hb
    · exact hok
    · exact .of_eq noGen
  have tabs : ∀ p ∈ cs, TabB (hidT s.heap H) mg p.1 p.2 := fun p hp => by
    refine ⟨?_, ?_, ?_⟩
    · obtain ⟨q, us, file, tf, flags, tg, inF, text, tt, e1, r1, r2, r3, more⟩ := hd p hp
      refine ⟨q, us, file, tf, flags, tg, inF, text, tt, hidT_get e1 (free e1 (fun _ _ z => by rw [r2] at z; cases z) fun z => ?_), r1, r2, r3, more⟩
      rw [r2] at z
      cases z
      simp at r3
    · obtain ⟨bm, ob, b1, b2, b3, b4, b5, b6⟩ := main
      refine ⟨bm, ob, b1, b2, fun z => ?_, fun z => ?_, hidT_get b3 (free b3 (fun _ _ z => by rw [b6] at z; cases z) fun z => by rw [b6] at z; cases z), b4, b5, b6⟩
      · obtain ⟨q, es, ep, e, d, _⟩ := glo
        rw [← z, b3] at e
        obtain rfl := Option.some.inj e
        rw [b6] at d; cases d
      · rw [z, tab0 p hp] at b3
        obtain rfl := Option.some.inj b3
        cases b6
    · intro z
      obtain ⟨q, es, ep, e, d, _⟩ := glo
      rw [z, tab0 p hp] at e
      obtain rfl := Option.some.inj e
      cases d
  have argA : ArgAt Y ⟨[], []⟩ H a (ns.map V.int) := ⟨size, by
    rcases script with z | ⟨q, its, n, z⟩
    · exact .inl ⟨⟨List.not_mem_nil, List.not_mem_nil⟩, z⟩
    · exact .inr ⟨q, its, n, z⟩⟩
  have start : HR Y ⟨[], []⟩ H [] := start_hr fun q P e => ⟨#[], hT P (eTS ▸ hYt q P e), trivial, fun pos cv e => by simp [codeAmong] at e⟩
  have sp : spM Y m [.ref a] H (fun v _ => v = .bl true) E0 := ⟨⟨[], []⟩, _, [], _, h', .cons (.arg argA (ints_rps ns)) .nil, start, law, ⟨fun ρ' H' v ev hr r => by cases r; rfl⟩⟩
  have run := (F _ inB (names glo) tabs).goes callerA rfl hr [] s H env ⟨[.ref a], []⟩ [.ref a] [.ref a] (bind s (.ref a)) (.cons rfl .nil) _ sp
  refine codeAny_mono run ?_
  intro r s' z
  match r, z with
  | .ok (.ret u), ⟨v, H', os, bare, un, hok', rv, q⟩ =>
    obtain rfl : v = .bl true := q
    obtain rfl : u = .bool true := rv
    have grown : ∀ b ∈ TS, ∃ more : Array Value, s'.heap.get? b = some { cls := .none, data := .fields more } := fun b hb => by
      obtain ⟨more, z⟩ := un.tbls b #[] (hT b hb)
      exact ⟨_, hok' b _ z⟩
    have same : ∀ b ob, b ∉ TS → s.heap.get? b = some ob → s'.heap.get? b = some ob := fun b ob nb e => by
      cases hb : H b with
      | none => exact un.keep b ob e hb List.not_mem_nil List.not_mem_nil
      | some u =>
        rcases what b u hb with ⟨z, -⟩ | ⟨rfl, -, rfl⟩
        · exact absurd z nb
        · rw [at_] at e
          obtain rfl := Option.some.inj e
          exact (hok' b _ (un.frzs _ _ _ hb)).1
    refine ⟨rfl, ⟨fun b ob e => ?_, fun b ob e => ?_⟩, os, bare⟩
    · by_cases hb : b ∈ TS
      · obtain ⟨p, hp, rfl⟩ := List.mem_map.mp (show b ∈ cs.map (·.2) by rw [ect, ← eTS]; exact hb)
        obtain ⟨more, hm⟩ := grown _ hb
        rw [tab0 p hp] at e
        obtain rfl := Option.some.inj e
        exact .inr (.inl ⟨((hd p hp).tab (tab0 p hp)).isCodeTable, rfl, #[], more, rfl, by rw [Array.empty_append]; exact hm⟩)
      · exact .inl (same b ob hb e)
    · by_cases hb : b ∈ TS
      · obtain ⟨more, hm⟩ := grown b hb
        exact ⟨_, hm⟩
      · exact ⟨ob, same b ob hb e⟩
end
/-- the goal that a head leaves, for a law with lambdas -/
theorem walkQT {l : PySem.W.OpenLaw} {n k : Nat} {q : Program} {loose : List Str} {XP : (Str → Option Value) → Heap → Prop} {YP : World → Heap → Prop} {d : DefRec} {x : Str} (most : l.most = some n) (small : n ≤ sizeLine) (plain : d.params.defaults = []) (hr : Room k callerA)
    (F : ∀ (w : World) (mg : Str → Option Value) (fa : Addr) (h : Heap), YP w h → h.Ns mainGlobals mg → mg d.name = some (.ref fa) →
      ∃ (K : PySem.W.Frag) (fd : FuncData) (Y : Wd) (m : List T → VH → Res T) (tl : List (Str × Addr)) (cs : List (Addr × Addr)), K.In h ∧ Y.K = K ∧ (cs.map (·.2) = tl.map (·.2) ∧ ∀ q P, Y.tb q = some P → P ∈ tl.map (·.2)) ∧
        (∀ p ∈ cs, h.get? p.2 = some { cls := .none, data := .fields #[] } ∧ K.lookup p.2 = none ∧ PySem.W.codeHdIn K p.1 p.2 = true) ∧ (∀ (s : Shared) (u : Value), BindsTo s fd ⟨[u], []⟩ [(x, u)]) ∧
        (∀ ns : List Int, ns.length ≤ n → ∃ h', m [.arg (ns.map T.int)] [] = .ok (.bl true) h') ∧ ∀ base : Heap, K.In base → base.Ns mainGlobals mg → (∀ p ∈ cs, TabB base mg p.1 p.2) → FnQ l.prog w K mg base Y k fa fd [x] m) :
    PySem.W.WalkO q loose XP YP l.row.toRowW d [] (fun f vs => PySem.call f vs) := by
  refine Att.attach_call most plain ?_
  intro w s₀ s₁ mg mb fa o pm cd doc a vs ns G Y' ho hd hcd named script nums len noGen
  obtain ⟨K, fd, Y, m, tl, cs, inK, hY, ⟨ect, hYt⟩, tabs, bind, law, hF⟩ := F w mg fa _ Y' G.T.g named
  exact lawQT inK G.T.g G.T.b G.T.builtins G.T.nolimit noGen ect hYt (fun p hp => (tabs p hp).1) (fun p hp => (tabs p hp).2.1) (fun p hp => PySem.W.codeHd_of_K inK (tabs p hp).2.2) G.T.bmain script nums (Nat.le_trans len small) hr hY hF bind (law ns len)
section
variable {X : Cx} {Y : Wd}
/-- what an expression makes is forgotten, but for what it hands back -/
def eCut (f : ME) : ME := fun τ h => match f τ h with
  | .ok t h' => if (h'.take h.length).all (VO.lowR h.length) = true then (match frz h.length h' 4 t with
    | some u => .ok u (h'.take h.length)
    | none => .bad) else .bad
  | .bad => .bad
theorem xCut {e : Expr} {f : ME} (he : PE X e (TM Y f)) : PE X e (TM Y (eCut f)) := pe_imp he fun σ H Q w => by
  obtain ⟨ρ, τ, h, u, h1, G, e, to⟩ := w
  unfold eCut at e
  cases q : f τ h with
  | bad => rw [q] at e; cases e
  | ok t h' =>
    simp only [q] at e
    split at e
    · rename_i low
      split at e
      · rename_i u' ef
        cases e
        exact ⟨ρ, τ, h, t, h', G, q, to_cut G.hr low ef to⟩
      · cases e
    · cases e
end
end TL
set_option Elab.async false
set_option linter.all false
set_option maxRecDepth 100000
set_option maxHeartbeats 4000000
namespace TL
open PySem PySem.Spec PyProof.Rows L2
section
variable {X : Cx} {Y : Wd} {W : WX}
def makeX (c : Nat) (m : List T → VH → ResX) : List T → VH → ResX := fun ts h => match m (.ref h.length :: ts) (h ++ [.ins c []]) with
  | .ok .non h' => .ok (.ref h.length) h'
  | .xc k fs h' => .xc k fs h'
  | _ => .bad
theorem tmxe_make {E : XK} {c : Nat} {C : Addr} {m : List T → VH → ResX} {g : MA} {σ : St} {H : Hp} {Q : VK} (hc : Y.cm c = some C) (w : TMXE Y (fun cls d _ H => E cls d H) (eCallX (makeX c m) g) σ H Q) : TMA Y g σ H fun vs H1 => rMake C (spX Y m) E vs H1 Q := by
  obtain ⟨ρ, τ, h, ts, h1, G, e1, to⟩ := tmxe_call w
  refine ⟨ρ, τ, h, ts, h1, G, e1, ⟨fun ρ1 H1 vs ev hr r => ?_⟩⟩
  obtain ⟨ρ2, ts2, h2, r2, hr2, z⟩ := to.to ρ1 H1 vs ev hr r
  intro x dx hx hdx hne
  rw [List.append_nil]
  have evd : Ev ρ2 H1 ρ2 (upd H1 dx (.own x)) := Ev.new hdx
  have hx1 : (upd H1 dx (.own x)) x = none := by rw [upd_ne (fun z => hne z.symm)]; exact hx
  have hr3 : HR Y (ρ2.push x) (upd (upd H1 dx (.own x)) x (.ins C dx [])) (h2 ++ [.ins c []]) := (hr2.new hdx).push hx1 ⟨C, dx, [], hc, upd_same, by simp, .nil⟩
  have ev3 : Ev ρ2 H1 (ρ2.push x) (upd (upd H1 dx (.own x)) x (.ins C dx [])) := evd.trans (Ev.newρ hx1)
  have hix : (ρ2.push x).ix[h2.length]? = some x := by
    show (ρ2.ix ++ [x])[h2.length]? = _
    rw [← hr2.len]
    simp
  refine ⟨ρ2.push x, .ref h2.length :: ts2, _, .cons (.ref hix) (r2.ev ev3.toEvR), hr3, ?_⟩
  unfold makeX at z
  cases q : m (.ref h2.length :: ts2) (h2 ++ [.ins c []]) with
  | bad => simp only [q] at z
  | xc k fs h3 =>
    simp only [q] at z ⊢
    exact XcTo.ev (R := fun _ H' cls d => E cls d H') ev3 z
  | ok t h3 =>
    cases t with
    | non =>
      simp only [q] at z ⊢
      refine ⟨fun ρ5 H5 v ev5 hr5 r5 => ?_⟩
      cases r5
      exact ⟨rfl, z.to ρ5 H5 _ (ev3.trans ev5) hr5 (.ref (ev5.toEvR.get hix))⟩
    | _ => simp only [q] at z
theorem xMakeX {E : XK} {c k : Nat} {f C : Addr} {fd : FuncData} {ps : List Str} {m : List T → VH → ResX} {x : Str} {p pos : Pos} {e : Expr} {es : List Expr} {g : MA} (hc : Y.cm c = some C) (M : Mk X.K C f) (F : FnOk X.prog X.w X.K X.mg X.base (L2.CX X.prog X.w) k f fd ps (spX Y m)) (tk : Takes X fun cls d _ H => E cls d H)
    (hr : Room (k + 1) X.A) (hg : Gl X x) (hm : X.mg x = some (.ref C)) (hb : Binds X.K fd ps []) (ha : PA X (e :: es) (TMA Y g)) (hdb : (x == ("__debug__" : Str)) = false := by decide) (he : starEach (e :: es) X.env = (false, eval e X.env) :: starEach es X.env := by rfl) (hpl : (backTo pos (starEach es X.env)).any (·.1) = false := by rfl) :
    PE X (.Call (.Name x p) (e :: es) [] pos) (TMXE Y (fun cls d _ H => E cls d H) (eCallX (makeX c m) g)) := pe_imp (pe_make (E := E) M F hr hg hm hb .nil (passes_call tk fun _ _ _ _ z => z) ha hdb he hpl) fun σ H Q w => tmxe_make hc w
theorem xMakeKwX {E : XK} {c k : Nat} {f C : Addr} {fd : FuncData} {ps ks : List Str} {ix : List Nat} {m : List T → VH → ResX} {x : Str} {p pos : Pos} {kws : List Keyword} {g : MA} (hc : Y.cm c = some C) (M : Mk X.K C f) (F : FnOk X.prog X.w X.K X.mg X.base (L2.CX X.prog X.w) k f fd ps (spX Y m)) (tk : Takes X fun cls d _ H => E cls d H)
    (hr : Room (k + 1) X.A) (hg : Gl X x) (hm : X.mg x = some (.ref C)) (hb : KwB X.K fd ps ks 1 ix) (ha : PK X kws (TMA Y g)) (hl : ∀ σ H R, TMA Y g σ H R → TMA Y g σ H fun vs H' => vs.length = ks.length ∧ R vs H') (hall : (backToKw pos (keywordEach kws X.env)).all (·.1.isSome) = true := by rfl) (hks : (backToKw pos (keywordEach kws X.env)).filterMap (·.1) = ks := by rfl)
    (hdb : (x == ("__debug__" : Str)) = false := by decide) (hpl : ((backTo pos (starEach [] X.env)).any (·.1) || (backToKw pos (keywordEach kws X.env)).any (·.1.isNone)) = false := by rfl) :
    PE X (.Call (.Name x p) [] kws pos) (TMXE Y (fun cls d _ H => E cls d H) (eCallX (makeX c m) (aPerm ix g))) :=
  pe_imp (pe_makeK0 (E := E) (ks := ks) (g := fun us ws => us ++ permL ix ws) (gV := fun vs zs => vs ++ permL ix zs) M F hr hg hm ⟨hb.to, fun a b => a.append (Vals.perm b ix)⟩ (passes_call tk fun _ _ _ _ z => z) ha hall hks hdb hpl) fun σ H Q w => by
    obtain ⟨ρ, τ, h, ts, h', G, e, to⟩ := hl _ _ _ (tma_perm (tmxe_make hc w))
    refine ⟨ρ, τ, h, ts, h', G, e, ⟨fun ρ1 H1 vs ev hr1 rs => ?_⟩⟩
    obtain ⟨nz, z⟩ := to.to ρ1 H1 vs ev hr1 rs
    exact ⟨rfl, nz, fun y dx hy hdx hne => by simpa using z y dx hy hdx hne⟩
/-- the lambda's body may let out what is told of it -/
theorem takesL {A : Around} {outer : List Env} {s : Shared} {H : Hp} {E : XK} {scope : Scope} {f c' : Addr} : Takes (LamX.lamCx X A outer s H E scope f c') fun cls d _ H => E cls d H := takes_of rfl rfl rfl rfl
end
end TL
set_option Elab.async false
set_option linter.all false
set_option maxRecDepth 100000
set_option maxHeartbeats 4000000
namespace TL
open PySem PySem.Spec PyProof.Rows L2
def RefS (f : MS) (g : MX) : Prop := ∀ τ h, f τ h = .bad ∨ g τ h = .o (f τ h)
def RefM (m : List T → VH → Res T) (x : List T → VH → ResX) : Prop := ∀ ts h t h', m ts h = .ok t h' → x ts h = .ok t h'
theorem refL {f : MS} : RefS f (mxL f) := fun _ _ => .inr rfl
theorem refBad {g : MX} : RefS sBad g := fun _ _ => .inl rfl
theorem refSeq {f1 f2 : MS} {g1 g2 : MX} (a : RefS f1 g1) (b : RefS f2 g2) : RefS (sSeq f1 f2) (mxSeq g1 g2) := fun τ h => by
  unfold sSeq mxSeq
  rcases a τ h with e | e
  · rw [e]; exact .inl rfl
  · rw [e]
    cases q : f1 τ h with
    | nx τ1 h1 => exact b τ1 h1
    | rt => exact .inr rfl
    | bk => exact .inr rfl
    | ct => exact .inr rfl
    | bad => exact .inl rfl
theorem refIf {c : MB} {f1 f2 : MS} {g1 g2 : MX} (a : RefS f1 g1) (b : RefS f2 g2) : RefS (sIf c f1 f2) (mxIf c g1 g2) := fun τ h => by
  unfold sIf mxIf
  cases q : c τ h with
  | bad => exact .inl rfl
  | ok v h1 => cases v with
    | true => exact a τ h1
    | false => exact b τ h1
theorem refDef {n p : Nat} {f : MS} {g : MX} (a : RefS f g) : RefM (defM n p f) (defX n p g) := fun ts h t h' e => by
  unfold defM at e
  unfold defX
  by_cases z : ts.length = p
  · rw [if_pos z] at e ⊢
    rcases a (startT n ts) h with q | q
    · rw [q] at e; cases e
    · rw [q]
      cases q2 : f (startT n ts) h with
      | nx => rw [q2] at e; cases e; rfl
      | rt => rw [q2] at e; cases e; rfl
      | bk => rw [q2] at e; cases e
      | ct => rw [q2] at e; cases e
      | bad => rw [q2] at e; cases e
  · rw [if_neg z] at e; cases e
theorem fnRef {P : Program} {w : World} {K : PySem.W.Frag} {mg : Str → Option Value} {base : Heap} {Y : Wd} {k : Nat} {f : Addr} {fd : FuncData} {ps : List Str} {m : List T → VH → Res T} {x : List T → VH → ResX} (r : RefM m x) (F : FnOk P w K mg base (L2.CX P w) k f fd ps (spX Y x)) : FnOk P w K mg base CX0 k f fd ps (spM Y m) :=
  (fnPlain F).imp fun vs H Q E q => by
    obtain ⟨ρ, ts, h, t, h', a, b, e, to⟩ := q
    exact ⟨ρ, ts, h, t, h', a, b, by unfold okX; rw [r _ _ _ _ e], to⟩
def rOr (r r' : R2) : R2 := fun x y H Q => r x y H Q ∨ r' x y H Q
def bAlt (b b' : T → T → VH → Res T) : T → T → VH → Res T := fun s t h => match b s t h with
  | .ok u h' => .ok u h'
  | .bad => b' s t h
theorem op_or {X : Cx} {f : Value → Value → Sem Value} {r r' : R2} (a : OpR X f r) (b : OpR X f r') : OpR X f (rOr r r') := fun pins s σ H x y v u Q I rx ry z => z.elim (a pins s σ H x y v u Q I rx ry) (b pins s σ H x y v u Q I rx ry)
theorem ot_or {Y : Wd} {r r' : R2} {b b' : T → T → VH → Res T} (o : OT Y r b) (o' : OT Y r' b') : OT Y (rOr r r') (bAlt b b') := fun ρ H t1 t2 v1 v2 h t h' Q r1 r2 hr e to => by
  unfold bAlt at e
  cases q : b t1 t2 h with
  | ok u h1 => rw [q] at e; cases e; exact .inl (o ρ H t1 t2 v1 v2 h _ _ Q r1 r2 hr q to)
  | bad => rw [q] at e; exact .inr (o' ρ H t1 t2 v1 v2 h t h' Q r1 r2 hr e to)
def catB (K : PySem.W.Frag) (l : List (Nat × Str)) : Bool := (l.all fun q => xfB K (exAd K q.1) && decide (PySem.W.findIn K (.ref (exAd K q.1)) (exFd q.1) = some none)) &&
  l.all fun c => l.all fun q => decide (PySem.W.exmOne K (.ref (exAd K c.1)) (.ref (exAd K q.1)) = some (q.1 == c.1))
structure CatF (K : PySem.W.Frag) (l : List (Nat × Str)) : Prop where
  ap : Apart K l
  xf : ∀ q ∈ l, XfC K (exAd K q.1) ∧ PySem.W.findIn K (.ref (exAd K q.1)) (exFd q.1) = some none
theorem catB_ok {K : PySem.W.Frag} {l : List (Nat × Str)} (h : catB K l = true) : CatF K l := by
  unfold catB at h
  obtain ⟨h1, h2⟩ := Bool.and_eq_true_iff.mp h
  refine ⟨fun c C hC hl q hq => ?_, fun q hq => ?_⟩
  · cases e : l.lookup c with
    | none => rw [e] at hl; cases hl
    | some nm =>
      have z := of_decide_eq_true (List.all_eq_true.mp (List.all_eq_true.mp h2 (c, nm) (lookup_mem2 e)) q hq)
      have hx : exAd K c = C := by unfold exAd; rw [hC]; rfl
      rw [hx] at z
      exact z
  · obtain ⟨a, b⟩ := Bool.and_eq_true_iff.mp (List.all_eq_true.mp h1 q hq)
    exact ⟨xfB_ok a, of_decide_eq_true b⟩
section
variable {X : Cx} {Y : Wd}
/-- x(lambda: e), the lambda's name told, what it leaves behind forgotten -/
theorem xLamQ (q : Str) {x a : Str} {g c P : Addr} {k : Nat} {pg : Arguments} {bg : List Stmt} {sg : Scope} {fd : FuncData} {Ng : List Str} {params : Arguments} {body : Expr} {scope : Scope} {cat : ResX → Res T} {f : MEX} {p lpos pos : Pos} (hg : Gl X x) (hm : X.mg x = some (.ref g)) (F : FunD X.K x x pg bg sg [] [] g fd) (hb : L2.Binds X.K fd [a] [])
    (Sg : FnScope Ng [a] sg) (hNg : Ng[0]? = some a) (hva : Vis sg a) (hG : ∀ (z : Str) (cdv : Value), LamX.GivesTo X Ng x sg g cdv bg a z (tCat Y cat)) (TB : LamX.TabB X.base X.mg c P) (hcode : X.env.code = .ref c) (hq : X.env.qual ++ "<lambda>" = q) (inj : TbInj Y) (hY : Y.tb q = some P) (hr : Room (k + 2) X.A) (L : LamX.LamS X.env.scope scope)
    (hdef : defaultsOf params X.env = ([], [])) (hbind : ∀ (q : Str) (cl : List (Str × Addr)) (pm cv ctv : Value), bindArgs (PySem.W.kla_fn "<lambda>" q params body scope cl pm cv ctv) ⟨[], []⟩ = pure [])
    (hbody : ∀ (A : Around) (outer : List Env) (s : Shared) (H : Hp) (E : XK) (f' c' : Addr), Room k (A.deeper (LamX.lamEnv X scope s.heap.objs.size f' c')) → PE (LamX.lamCx X A outer s H E scope f' c') body (TMXE Y (fun cls d _ H => E cls d H) f))
    (hdb : (x == ("__debug__" : Str)) = false := by decide) (hd : (a == ("__debug__" : Str)) = false := by decide) (hcd : (a == ("__classdict__" : Str)) = false := by decide) :
    PE X (.Call (.Name x p) [.Lambda params body scope lpos] [] pos) (TM Y (eCut (eLam cat f))) := by
  subst hq
  exact xCut (xLam hg hm F hb Sg hNg hva (hG _) TB hcode inj hY hr L hdef hbind hbody hdb hd hcd)
end
end TL
set_option Elab.async false
set_option linter.all false
set_option maxRecDepth 100000
set_option maxHeartbeats 4000000
namespace TL
open PySem PySem.Spec L2
section
variable {X : Cx} {Y : Wd}
def rEqDD : R2 := fun x y H Q => ∃ p q, x = .ref p ∧ y = .ref q ∧ H p = some (.dK []) ∧ H q = some (.dK []) ∧ Q (.bl true) H
theorem dict_none {H : Hp} {P : Program} {w : World} {s : Shared} {p : Addr} (ok : HOk P w H s.heap) (e : H p = some (.dK [])) : (p == sysModules) = false ∧ s.heap.DictOf (mixKind P w) p ([] : List (Key × Value)) := by
  obtain ⟨_, ns, vs, r, d⟩ := ok p _ e
  cases r
  exact ⟨ns, d⟩
theorem op_eqDD (hu : X.A.units + 80 < cLine) : OpR X (compareOp .Eq) rEqDD := by
  intro pins s σ H x y v u Q I rx ry z
  obtain ⟨p, q, rfl, rfl, hp, hq, k⟩ := z
  cases rx
  cases ry
  obtain ⟨n1, d1⟩ := dict_none I.hok hp
  obtain ⟨n2, d2⟩ := dict_none I.hok hq
  exact W.eq_dictsT (n := 0) (e := fun _ => true) (kb := ([] : List (Key × Value))) n1 n2 d1 d2 (fun _ _ _ m => absurd m List.not_mem_nil) (by omega) ⟨.bl true, H, I, rfl, k⟩
def bEqDD : T → T → VH → Res T := fun a b h => match a, b with
  | .ref n, .ref m => (match h[n]?, h[m]? with
    | some (.dct []), some (.dct []) => .ok (.bl true) h
    | _, _ => .bad)
  | _, _ => .bad
theorem ot_eqDD : OT Y rEqDD bEqDD := fun ρ H t1 t2 v1 v2 h t h' Q r1 r2 hr e to => by
  unfold bEqDD at e
  split at e
  · rename_i n m
    split at e
    · rename_i e1 e2
      cases e
      cases r1 with
      | ref ha =>
        cases r2 with
        | ref hb =>
          obtain ⟨k1, z1, y1, _⟩ := hr.at_ _ _ _ e1 ha
          obtain ⟨k2, z2, y2, _⟩ := hr.at_ _ _ _ e2 hb
          have n1 : k1 = [] := by cases k1 with | nil => rfl | cons _ _ => cases y1
          have n2 : k2 = [] := by cases k2 with | nil => rfl | cons _ _ => cases y2
          subst n1 n2
          exact ⟨_, _, rfl, rfl, z1, z2, to.to ρ H _ .refl hr (.bl true)⟩
    · cases e
  · cases e
end
end TL
set_option Elab.async false
set_option linter.all false
set_option maxRecDepth 100000
set_option maxHeartbeats 4000000
namespace K34
open K33
open PySem L2 TL
def s_is_integer : MS := (sRet (eAnd (eIsi (.b "int") (eVar 0)) (eNot (eIsi (.b "bool") (eVar 0)))))
def m_is_integer : List T → VH → Res T := defM 1 1 s_is_integer
def s_Pattern_figure : MS := (sSeq (sFor (iSeqC (eTup (aCons (eVar 1) (aCons (eVar 2) aNil)))) (mgName 3) (sIf (bNot (bTest (eCall m_is_integer (aCons (eVar 3) aNil)))) sBad sNil))
  (sRet (eCall fInt (aCons (eCall m_figure_at (aCons (eVar 0) (aCons (eVar 1) (aCons (eVar 2) aNil)))) aNil))))
def m_Pattern_figure : List T → VH → Res T := defM 4 3 s_Pattern_figure
def s_Pattern_text : MS := (sRet (eFld 2 0 (eVar 0)))
def m_Pattern_text : List T → VH → Res T := defM 1 1 s_Pattern_text
def s_Pattern___eq__ : MS := (sRet (eAnd (eIsi (.o 2) (eVar 1)) (eOp bEq (eFld 2 0 (eVar 0)) (eProp 2 m_Pattern_text (eVar 1)))))
def m_Pattern___eq__ : List T → VH → Res T := defM 2 2 s_Pattern___eq__
end K34
set_option Elab.async false
set_option linter.all false
set_option maxRecDepth 100000
set_option maxHeartbeats 4000000
namespace TL
open PySem PySem.Spec PyProof.Rows L2 Builtin Builtin.ObjectAttr
/-- the class at C stands over the built-in one whose mro is bmB -/
structure OexB (K : PySem.W.Frag) (bmB : List Value) (newId : String) (C : Addr) : Prop where
  cls : ∃ nm q N bs bm sn sub ab col dd k0 k1 k2 k3 k5, K.lookup C = some (excClassObj nm q C N bs bm true sn sub ab col dd k0 k1 k2 k3 k5 newId) ∧ PySem.W.excTail bmB bm = true
  sa : PySem.W.findIn K (.ref C) "__setattr__" = some (some (.builtin "object.__setattr__"))
  base : PySem.W.subIn K (.ref C) (.type "BaseException") = some true
  ty : PySem.W.typeIn K (.ref C) = some (.type "type")
  kp : PySem.W.keepIn K (.ref C) = true
section
variable {K : PySem.W.Frag} {bmB : List Value} {newId : String} {C : Addr}
theorem OexB.data (T : OexB K bmB newId C) : PySem.W.excOver K C bmB = true ∧ ∃ cd, PySem.W.clsIn K C = some cd ∧ cd.hasDict = true := by
  obtain ⟨nm, q, N, bs, bm, sn, sub, ab, col, dd, k0, k1, k2, k3, k5, hC, hb⟩ := T.cls
  have e : PySem.W.clsIn K C = some { name := nm, bases := bs, mro := .ref C :: bm, ns := N, qualname := q, hasDict := true, slotNames := sn, subclasses := sub, abstract := ab, collection := col, hasDel := false } := by
    unfold PySem.W.clsIn
    rw [hC]
  refine ⟨?_, _, e, rfl⟩
  unfold PySem.W.excOver
  rw [e]
  simp [hb]
end
section
variable {X : Cx} {pins : List (Addr × Obj)} {σ : St} {H : Hp} {s : Shared} {a C : Addr} {f : Str} {y : V} {u : Value} {bmB : List Value} {B newId initId : String}
/-- self.f = y, where the exception has no dict as yet -/
theorem first_store {A : Around} {Q : Unit → Shared → Prop} {E : Value → Shared → Prop} (SF : StoreFacts B bmB "object.__setattr__" "object") (T : OexB X.K bmB newId C) (I : Inv X pins σ H s) (e : H a = some (exo a C none)) (no : PySem.W.findIn X.K (.ref C) f = some none) (ry : RelV y u)
    (w : ∀ dx s', H dx = none → dx ≠ a → Inv X pins σ (upd (upd H dx (exd dx [(f, y)])) a (exo a C (some dx))) s' → Q () s') : wpAny (model X.prog X.w) A (setAttr (.ref a) f u) Q E s := by
  obtain ⟨hp, g, d, t, os⟩ := s
  obtain ⟨t0, ho⟩ := exo_at I.hok e
  obtain ⟨ov, cd, hcd, hdict⟩ := T.data
  have taker : PySem.W.takerIn X.K C f = some none := by unfold PySem.W.takerIn; rw [no]; rfl
  have sz : a < hp.objs.size := Heap.lt_size ho
  have free : H hp.objs.size = none := I.hok.fresh (Nat.le_refl _)
  have da : hp.objs.size ≠ a := Nat.ne_of_gt sz
  refine PySem.W.set_plain I.kIn (ox := PySem.W.excObj C t0 none .none) (od := none) ⟨ho, rfl, rfl, trivial⟩ T.sa ?_
  refine PySem.W.osa_openX (ox := PySem.W.excObj C t0 none .none) (od := none) SF I.kIn ⟨ho, rfl, rfl, trivial⟩ ov taker fun b => ?_
  refine wpAny_bind (wpAny_pure (wpAny_bind (PySem.W.instanceDict_exc ho (PySem.W.looks_clsIn I.kIn hcd) hdict ?_)))
  obtain ⟨h1, e1⟩ : ∃ h1, h1 = hp.push (PySem.W.dictOf [] 0) := ⟨_, rfl⟩
  obtain ⟨h2, e2⟩ : ∃ h2, h2 = h1.update a fun o => { o with dict := some hp.objs.size } := ⟨_, rfl⟩
  have old1 : ∀ b o, hp.get? b = some o → h1.get? b = some o := fun b o z => by rw [e1]; exact Heap.get?_push_of_some _ z
  have new1 : h1.get? hp.objs.size = some (PySem.W.dictOf [] 0) := by rw [e1]; exact Heap.get?_push_at rfl rfl
  have a1 := old1 a _ ho
  have a2 : h2.get? a = some (PySem.W.excObj C t0 (some hp.objs.size) .none) := by rw [e2]; exact Heap.get?_update_self _ a1 rfl
  have same2 : ∀ b, b ≠ a → h2.get? b = h1.get? b := fun b nb => by rw [e2]; exact Heap.get?_update_ne _ _ _ _ nb
  have ns1 : h1.Ns hp.objs.size (fun _ => none) := ⟨_, #[], _, new1, rfl, fun q hq => absurd hq (by simp), fun _ => rfl⟩
  have ns2 : h2.Ns hp.objs.size (fun _ => none) := ⟨_, #[], _, (same2 _ da).trans new1, rfl, fun q hq => absurd hq (by simp), fun _ => rfl⟩
  rw [← e1, ← e2]
  show wpAny _ _ (storeInDict hp.objs.size _ f u) _ _ _
  refine PySem.HandSPX.store_in_new ns2 fun h3 t3 ns3 same3 => ?_
  have J1 : Inv X pins σ (upd H hp.objs.size (exd hp.objs.size [])) ⟨h1, g, d, t, os⟩ := I.laid (t' := t) old1 (Nat.le_refl _) (exd_ok (Heap.Ns1.of_empty ns1) fun _ => trivial)
  have J2 : Inv X pins σ (upd (upd H hp.objs.size (exd hp.objs.size [])) a (exo a C (some hp.objs.size))) ⟨h2, g, d, t, os⟩ :=
    J1.write (t' := t) (x := a) (e := a) (by rw [upd_ne (Ne.symm da), e]; trivial) (.inl rfl) (fun b o nb z => (same2 b nb).trans z) ⟨_, a2⟩ (exo_ok a2)
  have J3 := J2.write (t' := t3) (x := hp.objs.size) (e := hp.objs.size) (o := exd hp.objs.size [(f, y)]) (h' := h3) (by rw [upd_ne da, upd_same]; trivial) (.inl rfl) (fun b o nb z => (same3.2 b nb).trans z) (let ⟨o, _, _, z, _⟩ := ns3; ⟨o, z⟩) (exd_ok ns3 (relO_put (fs := []) ry fun _ => trivial))
  refine w hp.objs.size _ free da ?_
  have eH : upd (upd (upd H hp.objs.size (exd hp.objs.size [])) a (exo a C (some hp.objs.size))) hp.objs.size (exd hp.objs.size [(f, y)]) = upd (upd H hp.objs.size (exd hp.objs.size [(f, y)])) a (exo a C (some hp.objs.size)) := by
    funext b
    by_cases b1 : b = a
    · subst b1
      rw [upd_ne (Ne.symm da), upd_same, upd_same]
    · by_cases b2 : b = hp.objs.size
      · subst b2
        rw [upd_same, upd_ne da, upd_same]
      · rw [upd_ne b2, upd_ne b1, upd_ne b2, upd_ne b1, upd_ne b2]
  rw [eH] at J3
  exact J3
end
theorem EV_cons1 {f : ME} {τ : TS_} {h h1 : VH} {t : T} (e : f τ h = .ok t h1) : aCons f aNil τ h = .ok [t] h1 := by unfold aCons aNil; simp only [e]
def tOstB (K : PySem.W.Frag) (bmB : List Value) (newId : String) (f : Str) (to te : TE) : TS := fun D σ H => te σ H fun y H1 => to σ H1 fun x H2 => ∃ a C : Addr, x = .ref a ∧ OexB K bmB newId C ∧ PySem.W.findIn K (.ref C) f = some none ∧ H2 a = some (exo a C none) ∧
  ∀ dx, H2 dx = none → dx ≠ a → D.nx σ (upd (upd H2 dx (exd dx [(f, y)])) a (exo a C (some dx)))
def spInitB (K : PySem.W.Frag) (bmB : List Value) (newId : String) (f : Str) : Sp := fun vs H Q _ => ∃ (a C : Addr) (v : V), vs = [.ref a, v] ∧ OexB K bmB newId C ∧ PySem.W.findIn K (.ref C) f = some none ∧ H a = some (exo a C none) ∧
  ∀ dx, H dx = none → dx ≠ a → Q .non (upd (upd H dx (exd dx [(f, v)])) a (exo a C (some dx)))
section
variable {X : Cx} {bmB : List Value} {B newId initId : String}
theorem psStoreB {o e : Expr} {to te : TE} {f : Str} {p' pos : Pos} (SF : StoreFacts B bmB "object.__setattr__" "object") (ho : PE X o to) (he : PE X e te) (hs : swapsWith e (some (.Attribute o f p')) pos.line X.env = pure false := by rfl) : PS X (.Assign [.Attribute o f p'] e pos) (tOstB X.K bmB newId f to te) := by
  constructor
  intro pins s σ H D I w
  refine plainObj_wpAny_Assign_Attribute (thn (he.run pins s σ H _ I w) ?_) hs
  rintro v s1 ⟨y, H1, I1, ry, w1⟩
  refine thn (ho.run pins s1 σ H1 _ I1 w1) ?_
  rintro u s2 ⟨x, H2, I2, rx, a, C, rfl, T, no, ea, go⟩
  cases rx
  exact first_store SF T I2 ea no ry fun dx s3 free ne J => ⟨σ, _, J, go dx free ne⟩
theorem pmkB {x : Str} {C fI : Addr} {k : Nat} {fd : FuncData} {ps : List Str} {sp : Sp} {e : Expr} {es : List Expr} {ta : TA} {p pos : Pos} (FB : ExcBaseFacts B newId initId bmB) (T : OexB X.K bmB newId C) (iC : PySem.W.findIn X.K (.ref C) "__init__" = some (some (.ref fI)))
    (tI : PySem.W.typeIn X.K (.ref fI) = some (.type "function")) (F : FnOk X.prog X.w X.K X.mg X.base CX0 k fI fd ps sp) (hr : Room (k + 1) X.A) (hb : Binds X.K fd ps []) (hg : Gl X x) (hm : X.mg x = some (.ref C)) (ha : PA X (e :: es) ta)
    (hdb : (x == ("__debug__" : Str)) = false := by decide) (he : starEach (e :: es) X.env = (false, eval e X.env) :: starEach es X.env := by rfl) (hpl : (backTo pos (starEach es X.env)).any (·.1) = false := by rfl) :
    PMk X (.Call (.Name x p) (e :: es) [] pos) (tMkO C sp [] ta) := by
  intro pins s σ H Q I w
  obtain ⟨nm, q, N, bs, bm, sn, sub, ab, col, dd, k0, k1, k2, k3, k5, hC, tail⟩ := T.cls
  refine wpAny_Call_Name_kw (ld_glob I hg hm (PySem.W.callWith_K (h₀ := X.base) I.mod.kin T.kp (thn (ha.run pos pins s σ H _ I w) ?_) he hpl) hdb)
  rintro us ⟨h0, g, dr, tk, os⟩ ⟨vs, H1, J, r, few, init⟩
  refine ⟨J.kIn, ?_⟩
  have le : h0.objs.size ≤ h0.objs.size + 1 := Nat.le_succ _
  have sp1 := init (h0.objs.size + 1) (J.hok.fresh le)
  rw [List.append_nil] at sp1
  obtain ⟨h1, e1⟩ : ∃ h1, h1 = (h0.push (PySem.W.kdv_tup us)).push (PySem.HandSPX.excO C h0.objs.size) := ⟨_, rfl⟩
  have old : ∀ b o, h0.get? b = some o → h1.get? b = some o := fun b o z => by rw [e1]; exact Heap.get?_push_of_some _ (Heap.get?_push_of_some _ z)
  have at1 : h1.get? (h0.objs.size + 1) = some (PySem.HandSPX.excO C h0.objs.size) := by rw [e1]; heap_get
  have J1 : Inv X pins σ (upd H1 (h0.objs.size + 1) (exo (h0.objs.size + 1) C none)) ⟨h1, g, dr, tk, os⟩ := J.laid (t' := tk) old le (exo_ok at1)
  have vals : Vals (V.ref (h0.objs.size + 1) :: vs) (Value.ref (h0.objs.size + 1) :: us) := .cons rfl r
  have many : (Value.ref (h0.objs.size + 1) :: us).length = ps.length := vals.length.symm.trans (F.len _ _ _ _ sp1)
  have few2 : us.length ≤ sizeLine := by have := r.length; rw [sizeLine_eq]; omega
  have bd := hb _ (Value.ref (h0.objs.size + 1) :: us) J1.kIn (by rw [List.append_nil]; exact many)
  rw [List.append_nil] at bd
  refine wpAny_call (PySem.HandSPX.call_own FB (fun Z => PySem.W.excTail_contains Z bm tail) (J.kIn _ _ hC) (PySem.W.looks_findIn J.kIn iC) (fun self => PySem.W.bind_fn J.kIn self tI) few2 ?_)
  simp only [List.nil_append]
  rw [← e1]
  refine codeAny_mono (F.run _ X.stack _ _ _ _ _ _ E0 (hr.make C us []) (J1.env0.make C us []) bd vals sp1) ?_
  intro res s' z
  match res, s', z with
  | .ok (.ret u), ⟨h2, g2, d2, t2, os'⟩, ⟨v, H2, os2, bare2, un2, hok2, rv, ev, d, fs, ea, ed, hd1, q2⟩ =>
    subst ev
    exact ⟨rv, mk_end (raises_own T.base T.ty) J le old un2 hok2 os2 bare2 ea ed hd1 q2⟩
  | .error v, _, z => exact z.elim
end
section
variable {P : Program} {w : World} {K : PySem.W.Frag} {mg : Str → Option Value} {base : Heap} {bmB : List Value} {newId : String}
theorem fnInitB {x qual s y fld : Str} {params : Arguments} {body : List Stmt} {scope : Scope} {dvs : List V} {kws : List (Str × V)} {f : Addr} {fd : FuncData} (F : FunD K x qual params body scope dvs kws f fd) (S : FnScope [s, y] [s, y] scope)
    (hb : ∀ (cdv : Value) (A : Around) (outer : List Env) (st : Shared) (H : Hp) (E : XK), PSs (cxOf CX0 P w K mg base [s, y] qual scope f cdv A outer st H E).nox body (tOstB K bmB newId fld (tVar 0) (tVar 1))) : FnOk P w K mg base CX0 1 f fd [s, y] (spInitB K bmB newId fld) := by
  refine F.ok S (fun vs H Q E z => ?_) (fun cdv A outer st H vs Q E hr z => ⟨_, (hb cdv A outer st H E).nox, ?_⟩)
  · obtain ⟨a, C, v, rfl, _⟩ := z
    rfl
  · obtain ⟨a, C, v, rfl, T, no, ha, go⟩ := z
    exact ⟨v, rfl, .ref a, rfl, a, C, rfl, T, no, ha, go⟩
end
section
variable {X : Cx} {Y : Wd} {W : WX} {bmB : List Value} {B newId initId : String}
theorem xxRaiseB {x s y fld : Str} {c k : Nat} {C fI : Addr} {fd : FuncData} {e : Expr} {f : ME} {p pos pos2 : Pos} (FB : ExcBaseFacts B newId initId bmB) (hcalm : X.calm = true) (tk : Takes X W) (hc : exC Y.K c = some C) (hfn : (exFn c).take 1 = [fld]) (T : OexB X.K bmB newId C)
    (no : PySem.W.findIn X.K (.ref C) fld = some none) (iC : PySem.W.findIn X.K (.ref C) "__init__" = some (some (.ref fI))) (tI : PySem.W.typeIn X.K (.ref fI) = some (.type "function")) (F : FnOk X.prog X.w X.K X.mg X.base CX0 k fI fd [s, y] (spInitB X.K bmB newId fld)) (hr : Room (k + 1) X.A)
    (hb : Binds X.K fd [s, y] []) (hg : Gl X x) (hm : X.mg x = some (.ref C)) (he : PA X [e] (TMA Y (aCons f aNil))) (hdb : (x == ("__debug__" : Str)) = false := by decide) (hst : starEach [e] X.env = (false, eval e X.env) :: starEach [] X.env := by rfl) :
    PS X (.Raise (some (.Call (.Name x p) [e] [] pos)) none pos2) (TMX Y W (mxRaise c f)) :=
  ps_imp (L2.ps_raise hcalm tk (pmkB FB T iC tI F hr hb hg hm he hdb hst rfl)) fun D σ H w => by
    obtain ⟨ρ, τ, h, G, to⟩ := w
    unfold mxRaise at to
    cases e1 : f τ h with
    | bad => simp only [e1] at to; exact (show False from to).elim
    | ok t h1 =>
      simp only [e1] at to
      refine ⟨ρ, τ, h, [t], h1, G, EV_cons1 e1, ⟨fun ρ1 H1 vs ev hr r => ?_⟩⟩
      match vs, r with
      | [v], .cons r1 .nil =>
        refine ⟨by simp, fun a ha => ⟨a, C, v, rfl, T, no, upd_same, fun dx hdx ne => ⟨rfl, dx, [(fld, v)], upd_same, ?_, ?_, ?_⟩⟩⟩
        · rw [upd_ne ne, upd_same]
        · rw [← hdx, upd_ne ne]
        · have hd : H1 dx = none := by rw [← hdx, upd_ne ne]
          rw [heap_raised ha]
          exact to ρ1 _ C dx [(fld, v)] (ev.trans (Ev.new hd)) (hr.new hd) hc upd_same (by simp [hfn]) (.cons (r1.ev (Ev.new hd).toEvR) .nil) σ (G.sl.ev (ev.trans (Ev.new hd)).toEvR)
end
end TL
set_option Elab.async false
set_option linter.all false
set_option maxRecDepth 100000
set_option maxHeartbeats 4000000
namespace TL
open PySem PySem.Spec PyProof.Rows L2
abbrev aeM : List Value := [.type "ArithmeticError", .type "Exception", .type "BaseException", .type "object"]
abbrev aeN : String := "ArithmeticError.__new__"
def clsAeB (C : Addr) (o : Obj) : Bool := match o with
  | ⟨.type "type", _, .cls ⟨_, _, .ref C' :: bm, _, _, hd, _, _, _, _, del⟩, ⟨[_, _, _, _, some (.builtin "ArithmeticError.__new__"), _]⟩⟩ => decide (C' = C) && (hd && (!del && PySem.W.excTail aeM bm))
  | _ => false
def exAB (K : PySem.W.Frag) (x fld : Str) : Bool :=
  (match K.lookup (He.ga K x) with
    | some o => clsAeB (He.ga K x) o
    | none => false) &&
  (He.eqO (PySem.W.findIn K (.ref (He.ga K x)) "__setattr__") (some (some (.builtin "object.__setattr__"))) &&
  (decide (PySem.W.subIn K (.ref (He.ga K x)) (.type "BaseException") = some true) &&
  (decide (PySem.W.typeIn K (.ref (He.ga K x)) = some (.type "type")) &&
  (PySem.W.keepIn K (.ref (He.ga K x)) &&
  (He.eqO (PySem.W.findIn K (.ref (He.ga K x)) "__init__") (some (some (.ref (He.ma K (He.ga K x) "__init__")))) &&
  (decide (PySem.W.typeIn K (.ref (He.ma K (He.ga K x) "__init__")) = some (.type "function")) &&
  He.eqO (PySem.W.findIn K (.ref (He.ga K x)) fld) (some none)))))))
structure ExA (K : PySem.W.Frag) (x fld : Str) : Prop where
  cls : OexB K aeM aeN (He.ga K x)
  init : PySem.W.findIn K (.ref (He.ga K x)) "__init__" = some (some (.ref (He.ma K (He.ga K x) "__init__")))
  fn : PySem.W.typeIn K (.ref (He.ma K (He.ga K x) "__init__")) = some (.type "function")
  no : PySem.W.findIn K (.ref (He.ga K x)) fld = some none
theorem exAB_ok {K : PySem.W.Frag} {x fld : Str} (h : exAB K x fld = true) : ExA K x fld := by
  unfold exAB at h
  simp only [Bool.and_eq_true, decide_eq_true_eq] at h
  obtain ⟨h1, h2, h3, h4, h5, h6, h7, h8⟩ := h
  refine ⟨⟨?_, He.eqO_ok h2, h3, h4, h5⟩, He.eqO_ok h6, h7, He.eqO_ok h8⟩
  split at h1
  · rename_i o e
    unfold clsAeB at h1
    split at h1
    · simp only [Bool.and_eq_true, decide_eq_true_eq, Bool.not_eq_true'] at h1
      obtain ⟨rfl, z2, z3, z4⟩ := h1
      subst z2 z3
      exact ⟨_, _, _, _, _, _, _, _, _, _, _, _, _, _, _, e, z4⟩
    · cases h1
  · cases h1
end TL
set_option Elab.async false
set_option linter.all false
set_option maxRecDepth 100000
set_option maxHeartbeats 4000000
namespace K31
open K33 hiding m_law_case_right s_law_case_right
open K34
open PySem L2 TL
def sx_Pattern___init__ : MX := (mxSeq (mxL (sSet 2 (eCall m_rows_in (aCons (eVar 1) aNil))))
  (mxSeq (mxIf (bTest (eOp bIs (eVar 2) (eK .non))) (mxRaise 0 (eVar 1)) (mxL sNil))
  (mxSeq (mxL (sAsg (eTup (aCons (eVar 1) (aCons (eVar 2) aNil))) (mgTup 2 (mgsCons (mgFld 2 0 (eVar 0)) (mgsCons (mgFld 2 1 (eVar 0)) mgsNil)))))
  (mxSeq (mxL (sSet 3 (eCall m_first_wrong (aCons (eVar 0) aNil))))
  (mxIf (bTest (eOp bIsn (eVar 3) (eK .non))) (mxRaise 14 (eVar 3)) (mxL sNil))))))
def mx_Pattern___init__ : List T → VH → ResX := defX 4 2 sx_Pattern___init__
theorem ref_Pattern___init__ : RefM m_Pattern___init__ mx_Pattern___init__ := refDef (show RefS s_Pattern___init__ sx_Pattern___init__ from (refSeq refL (refSeq (refIf refBad refL) (refSeq refL (refSeq refL (refIf refBad refL))))))
def s_Pattern___repr__ : MS := (sRet (eJoin [(eK (.str "Pattern of ")), (eFmt (eCall fLen (aCons (eOp bIx (eFld 2 1 (eVar 0)) (eK (.int 0))) aNil))), (eK (.str " by ")), (eFmt (eCall fLen (aCons (eFld 2 1 (eVar 0)) aNil)))]))
def m_Pattern___repr__ : List T → VH → Res T := defM 1 1 s_Pattern___repr__
def s_Pattern___str__ : MS := (sRet (eCall fStrS (aCons (eFld 2 0 (eVar 0)) aNil)))
def m_Pattern___str__ : List T → VH → Res T := defM 1 1 s_Pattern___str__
def s_Pattern_height : MS := (sRet (eCall fLen (aCons (eFld 2 1 (eVar 0)) aNil)))
def m_Pattern_height : List T → VH → Res T := defM 1 1 s_Pattern_height
def s_Pattern_width : MS := (sRet (eCall fLen (aCons (eOp bIx (eFld 2 1 (eVar 0)) (eK (.int 0))) aNil)))
def m_Pattern_width : List T → VH → Res T := defM 1 1 s_Pattern_width
def s_law_bent : MS := (sSeq (sPar 2 3 (aCons (eCall m_law_roll (aCons (eVar 0) (aCons (eOp bAdd (eCall fLen (aCons (eVar 1) aNil)) (eK (.int 1))) aNil))) (aCons (eCall m_law_pick (aCons (eVar 0) (aCons (eK (.str "012345678949/ a-")) aNil))) aNil)))
  (sSeq (sSet 4 (eOp bAdd (eOp bAdd (eSl (eVar 1) oNo (oSome (eVar 2))) (eVar 3)) (eSl (eVar 1) (oSome (eOp bAdd (eVar 2) (eK (.int 1)))) oNo)))
  (sSeq (sSet 5 (eL (aLim (aCons (eVar 1) (aCons (eOp bAdd (eOp bAdd (eSl (eVar 1) oNo (oSome (eVar 2))) (eVar 3)) (eSl (eVar 1) (oSome (eVar 2)) oNo)) (aCons (eVar 4) (aCons (eOp bAdd (eSl (eVar 1) oNo (oSome (eVar 2))) (eSl (eVar 1) (oSome (eOp bAdd (eVar 2) (eK (.int 1)))) oNo)) aNil)))))))
  (sSeq (sSet 5 (eOp bAdd (eVar 5) (eL (aLim (aCons (eOp bAdd (eOp bAdd (eVar 1) (eK (.str "/"))) (eVar 1)) (aCons (eOp bAdd (eK (.str "/")) (eVar 1)) (aCons (eOp bAdd (eVar 1) (eVar 1)) (aCons (eOp bAdd (eVar 1) (eK (.str "\n"))) (aCons (eK .non) (aCons (eL (aLim (aCons (eVar 1) aNil))) aNil))))))))))
  (sSeq (sSet 5 (eOp bAdd (eVar 5) (eL (aLim (aCons (eK (.int 64)) (aCons (eK (.str "")) (aCons (eTup (aCons (eK (.str "64")) aNil)) (aCons (eOp bMulS (eK (.str "0")) (eK (.int 13))) (aCons (eMt "str" mJoin (eK (.str "/")) (aCons (eL (mMul (eL (aLim (aCons (eK (.str "0")) aNil))) (eK (.int 13)))) aNil)) (aCons (eK (.bl true)) (aCons eDNew aNil)))))))))))
  (sRet (eCall m_law_pick (aCons (eVar 0) (aCons (eOp bAdd (eVar 5) (eL (mMul (eL (aLim (aCons (eVar 4) aNil))) (eK (.int 4))))) aNil)))))))))
def m_law_bent : List T → VH → Res T := defM 6 2 s_law_bent
def cat_law_caught : ResX → Res T := catOf [(0, "InvalidText"), (14, "NotMutual")] (fun _ h => (sRet (eTup aNil)) (List.replicate 2 none) h)
def s_law_read : MS := (sSeq (sSet 1 (eIf (bTest (eIsi (.b "str") (eVar 0))) (eMt "str" mSplit (eVar 0) (aCons (eK (.str "/")) aNil)) (eL (aLim (aCons (eK (.str "")) aNil)))))
  (sSeq (sIf (bOr (bNot (bTest (eChain bLe bLe (eK (.int 1)) (eCall fLen (aCons (eVar 1) aNil)) (eK (.int 12))))) (bNot (bTest (eChain bLe bLe (eK (.int 1)) (eCall fLen (aCons (eOp bIx (eVar 1) (eK (.int 0))) aNil)) (eK (.int 12)))))) (sRet (eTup aNil)) sNil)
  (sSeq (sFor (iSeqC (eVar 1)) (mgName 2) (sIf (bOr (bTest (eOp bNe (eCall fLen (aCons (eVar 2) aNil)) (eCall fLen (aCons (eOp bIx (eVar 1) (eK (.int 0))) aNil)))) (bNot (bTest (eCall fAll (aCons (eL (mLc (iSeqC (eVar 2)) [3] (mgName 3) bYes (eOp bIn (eVar 3) (eK (.str "012346789"))))) aNil))))) (sRet (eTup aNil)) sNil))
  (sRet (eL (mLc (iSeqC (eRev (eVar 1))) [2] (mgName 2) bYes (eL (mLc (iSeqC (eVar 2)) [3] (mgName 3) bYes (eCall fInt (aCons (eVar 3) aNil))))))))))
def m_law_read : List T → VH → Res T := defM 4 1 s_law_read
def s_law_same (rec : List T → VH → Res T) : MS := (sSeq (sFor (iSeqC (eL (aLim (aCons (eOp bEq (eIsi (.b "tuple") (eVar 0)) (eIsi (.b "tuple") (eVar 1))) (aCons (eOp bEq (eIsi (.b "list") (eVar 0)) (eIsi (.b "list") (eVar 1))) (aCons (eOp bEq (eIsi (.b "bool") (eVar 0)) (eIsi (.b "bool") (eVar 1))) (aCons (eOp bEq (eIsi (.b "int") (eVar 0)) (eIsi (.b "int") (eVar 1))) aNil))))))) (mgName 2) (sIf (bNot (bTest (eVar 2))) (sRet (eK (.bl false))) sNil))
  (sSeq (sIf (bOr (bTest (eIsi (.b "tuple") (eVar 0))) (bTest (eIsi (.b "list") (eVar 0)))) (sRet (eAnd (eOp bEq (eCall fLen (aCons (eVar 0) aNil)) (eCall fLen (aCons (eVar 1) aNil))) (eCall fAll (aCons (eL (mLc (iRange1 (aCons (eCall fLen (aCons (eVar 0) aNil)) aNil)) [3] (mgName 3) bYes (eCall rec (aCons (eOp bIx (eVar 0) (eVar 3)) (aCons (eOp bIx (eVar 1) (eVar 3)) aNil))))) aNil)))) sNil)
  (sRet (eOp (bAlt bEq bEqDD) (eVar 0) (eVar 1)))))
def m_law_same : Nat → List T → VH → Res T
  | 0 => fun _ _ => .bad
  | k + 1 => defM 4 2 (s_law_same (m_law_same k))
def s_law_wrong : MS := (sSeq (sFor (iRange1 (aCons (eCall fLen (aCons (eVar 0) aNil)) aNil)) (mgName 1) (sFor (iRange1 (aCons (eCall fLen (aCons (eOp bIx (eVar 0) (eK (.int 0))) aNil)) aNil)) (mgName 2) (sSeq (sSet 3 (eOp bIx (eOp bIx (eVar 0) (eVar 1)) (eVar 2)))
  (sSeq (sSet 4 (eCall m_law_shift (aCons (eVar 3) aNil)))
  (sSeq (sSet 5 (eCall m_law_at (aCons (eVar 0) (aCons (eOp bAdd (eVar 2) (eOp bIx (eVar 4) (eK (.int 0)))) (aCons (eOp bAdd (eVar 1) (eOp bIx (eVar 4) (eK (.int 1)))) aNil)))))
  (sIf (bAnd (bTest (eOp bGt (eVar 3) (eK (.int 0)))) (bTest (eOp bNe (eOp bAdd (eVar 5) (eVar 3)) (eK (.int 10))))) (sRet (eTup (aCons (eVar 2) (aCons (eVar 1) aNil)))) sNil))))))
  (sRet (eTup aNil)))
def m_law_wrong : List T → VH → Res T := defM 6 1 s_law_wrong
def s_law_case_right : MS := (sSeq (sFor (iRange1 (aCons (eK (.int 8)) aNil)) (mgName 1) (sSeq (sSet 2 (eCall m_law_grid (aCons (eVar 0) (aCons (eK (.int 5)) aNil))))
  (sSeq (sSet 3 (eCall m_law_spelled (aCons (eVar 2) aNil)))
  (sSeq (sPar 4 5 (aCons (eCall (cutM (makeM 2 m_Pattern___init__)) (aCons (eVar 3) aNil)) (aCons (eCall (cutM (makeM 2 m_Pattern___init__)) (aPerm [0] (aCons (eVar 3) aNil))) aNil)))
  (sSeq (sSet 6 (eH (aLim (aCons (eProp 2 m_Pattern_text (eVar 4)) (aCons (eCall (fOwn1 2 m_Pattern___str__) (aCons (eVar 4) aNil)) (aCons (eProp 2 m_Pattern_width (eVar 4)) (aCons (eProp 2 m_Pattern_height (eVar 4)) (aCons (eOp (bEqO 2 false m_Pattern___eq__) (eVar 4) (eVar 5)) (aCons (eOp (bEqO 2 true m_Pattern___eq__) (eVar 4) (eVar 5)) (aCons (eOp (bEqO 2 false m_Pattern___eq__) (eVar 4) (eVar 3)) aNil))))))))))
  (sSeq (sIf (bTest (eOp bNe (eCall fRepr (aCons (eVar 6) aNil)) (eCall fRepr (aCons (eL (aLim (aCons (eVar 3) (aCons (eVar 3) (aCons (eCall fLen (aCons (eOp bIx (eVar 2) (eK (.int 0))) aNil)) (aCons (eCall fLen (aCons (eVar 2) aNil)) (aCons (eK (.bl true)) (aCons (eK (.bl false)) (aCons (eK (.bl false)) aNil))))))))) aNil)))) (sRet (eK (.bl false))) sNil)
  (sSeq (sIf (bTest (eOp bNe (eCall (fOwn1 2 m_Pattern___repr__) (aCons (eVar 4) aNil)) (eOp bAdd (eOp bAdd (eOp bAdd (eK (.str "Pattern of ")) (eCall fStr (aCons (eCall fLen (aCons (eOp bIx (eVar 2) (eK (.int 0))) aNil)) aNil))) (eK (.str " by "))) (eCall fStr (aCons (eCall fLen (aCons (eVar 2) aNil)) aNil))))) (sRet (eK (.bl false))) sNil)
  (sFor (iRange1 (aCons (eK (.int 6)) aNil)) (mgName 7) (sSeq (sPar 8 9 (aCons (eOp bSub (eCall m_law_roll (aCons (eVar 0) (aCons (eK (.int 40)) aNil))) (eK (.int 20))) (aCons (eOp bSub (eCall m_law_roll (aCons (eVar 0) (aCons (eOp bPow (eK (.int 10)) (eK (.int 30))) aNil))) (eOp bMul (eK (.int 5)) (eOp bPow (eK (.int 10)) (eK (.int 29))))) aNil)))
  (sSeq (sSet 10 (eCall m_law_at (aCons (eVar 2) (aCons (eVar 8) (aCons (eVar 9) aNil)))))
  (sSeq (sIf (bTest (eOp bNe (eCall fRepr (aCons (eL (aLim (aCons (eMeth 2 m_Pattern_figure (eVar 4) (aCons (eVar 8) (aCons (eVar 9) aNil))) (aCons (eMeth 2 m_Pattern_figure (eVar 4) (aPerm [1, 0] (aCons (eVar 9) (aCons (eVar 8) aNil)))) aNil)))) aNil)) (eCall fRepr (aCons (eL (aLim (aCons (eVar 10) (aCons (eVar 10) aNil)))) aNil)))) (sRet (eK (.bl false))) sNil)
  (sSeq (sSet 11 (eCall m_law_bent (aCons (eVar 0) (aCons (eVar 3) aNil))))
  (sSeq (sSet 12 (eCall m_law_read (aCons (eVar 11) aNil)))
  (sSeq (sSet 10 (eTup (aCons (eK (.str "InvalidText")) (aCons (eVar 11) aNil))))
  (sSeq (sIf (bTest (eOp bNe (eVar 12) (eTup aNil))) (sSet 10 (eIf (bTest (eOp bNe (eCall m_law_wrong (aCons (eVar 12) aNil)) (eTup aNil))) (eTup (aCons (eK (.str "NotMutual")) (aCons (eCall m_law_wrong (aCons (eVar 12) aNil)) aNil))) (eTup aNil))) sNil)
  (sSeq (sSet 6 (eH (aLim (aCons (eCut (eLam cat_law_caught (eCallX (makeX 2 mx_Pattern___init__) (aCons (eVar 11) aNil)))) aNil))))
  (sSeq (sExpr (eMt "list" mAppend (eVar 6) (aCons (eCut (eLam cat_law_caught (eCallX (makeX 2 mx_Pattern___init__) (aPerm [0] (aCons (eVar 11) aNil))))) aNil)))
  (sIf (bOr (bNot (bTest (eCall (m_law_same 12) (aCons (eVar 6) (aCons (eL (aLim (aCons (eVar 10) (aCons (eVar 10) aNil)))) aNil))))) (bAnd (bTest (eOp bEqE (eVar 10) (eTup aNil))) (bTest (eOp bNe (eOp (bEqO 2 false m_Pattern___eq__) (eCall (cutM (makeM 2 m_Pattern___init__)) (aCons (eVar 11) aNil)) (eVar 4)) (eOp bEq (eVar 11) (eVar 3)))))) (sRet (eK (.bl false))) sNil))))))))))))))))))
  (sRet (eK (.bl true))))
def m_law_case_right : List T → VH → Res T := defM 13 1 s_law_case_right
def s_law : MS := (sSeq (sFor (iRange1 (aCons (eCall fMax2 (aCons (eK (.int 2)) (aCons (eCall fMin2 (aCons (eCall fLen (aCons (eVar 0) aNil)) (aCons (eK (.int 5)) aNil))) aNil))) aNil)) (mgName 1) (sIf (bNot (bTest (eCall m_law_case_right (aCons (eCall m_law_purse (aCons (eCall m_law_cell (aCons (eVar 0) (aCons (eVar 1) aNil))) aNil)) aNil)))) (sRet (eK (.bl false))) sNil))
  (sRet (eK (.bl true))))
def m_law : List T → VH → Res T := defM 2 1 s_law
end K31
set_option Elab.async false
set_option linter.all false
set_option maxRecDepth 100000
set_option maxHeartbeats 4000000
namespace TL
open PySem PySem.Spec L2
open PySem.W PySem.Calls PyProof.Rows HandSHeadRun
end TL
set_option Elab.async false
set_option linter.all false
set_option maxRecDepth 100000
set_option maxHeartbeats 4000000
namespace K31
open K33 hiding m_law_case_right s_law_case_right
open K34
open PySem PySem.Spec L2 TL
def top (i : Nat) : Stmt := PySem.Challenge.pw_pairheld_k31_whole_patterns_made.main.body.getD i (.Pass ⟨0, 0, 0, 0⟩)
def mth (i j : Nat) : Stmt := match top i with
  | .ClassDef _ _ _ b _ _ _ _ _ _ _ => b.getD j (.Pass ⟨0, 0, 0, 0⟩)
  | _ => .Pass ⟨0, 0, 0, 0⟩
def cl : ClT := [(2, "Pattern", ["written", "rows"])]
def tl : List (Str × He.Defn) := [("_law_case_right.<locals>.<lambda>", ("_law_case_right", none))]
def wd (w : World) (K : PySem.W.Frag) : Wd := wdOf w cl K tl
theorem fn_lt_Pattern {w : World} {K : PySem.W.Frag} : ((wd w K).fn 2).length < 1000 := (show (["written", "rows"] : List Str).length < 1000 by decide)
theorem fn_nd_Pattern {w : World} {K : PySem.W.Frag} : ((wd w K).fn 2).Nodup := (show (["written", "rows"] : List Str).Nodup by decide)
open PyProof.Rows
def fa0 : List He.Fa := [.free "abs", .free "all", .free "bool", .free "divmod", .free "enumerate", .free "int", .free "isinstance", .free "len", .free "list", .free "max", .free "min", .free "range", .free "repr", .free "str", .free "tuple", .glo "figure_at", .glo "first_wrong", .glo "rows_in", .glo "is_integer", .glo "_law_at", .glo "_law_roll", .glo "_law_pick", .glo "_law_bent", .glo "_law_caught", .glo "_law_shift", .glo "_law_grid", .glo "_law_read", .glo "_law_same", .glo "_law_spelled", .glo "_law_wrong"]
def fa1 : List He.Fa := [.glo "_law_case_right", .glo "_law_cell", .glo "_law_purse", .glo "law", .glo "Pattern", .cls "Pattern", .mkr "Pattern", .glo "InvalidText", .glo "NotMutual", .noat "Pattern" "rows", .noat "Pattern" "written", .meth "Pattern" "__eq__", .meth "Pattern" "__repr__", .meth "Pattern" "__str__", .meth "Pattern" "figure", .int "MOST_SIDE" 12, .glo "SHIFTS"]
def fa : List He.Fa := fa0 ++ fa1
def ts : List He.Tab := [((fun K => He.ga K "SHIFTS"), ["6", "4", "8", "2", "9", "1", "7", "3"])]
def pr_Pattern_text : PrD := ⟨"Pattern", "text", "Pattern.text", defArgs (mth 12 1), defBody (mth 12 1), defScope (mth 12 1)⟩
def pr_Pattern_height : PrD := ⟨"Pattern", "height", "Pattern.height", defArgs (mth 12 3), defBody (mth 12 3), defScope (mth 12 3)⟩
def pr_Pattern_width : PrD := ⟨"Pattern", "width", "Pattern.width", defArgs (mth 12 2), defBody (mth 12 2), defScope (mth 12 2)⟩
def prs : List PrD := [pr_Pattern_text, pr_Pattern_height, pr_Pattern_width]
def exs (K : PySem.W.Frag) : List Bool := [cfB K (He.ga K "Pattern"), isiChk cl K (.ref (He.ga K "Pattern")) (.o 2), isiChk cl K (.type "bool") (.b "bool"), isiChk cl K (.type "int") (.b "int"), isiChk cl K (.type "list") (.b "list"), isiChk cl K (.type "str") (.b "str"), isiChk cl K (.type "tuple") (.b "tuple"), kdB K "SHIFTS" kv_SHIFTS, nfChk cl K (He.ga K "Pattern"), neB K (He.ga K "Pattern"), exB K "InvalidText" "given", exAB K "NotMutual" "place", catB K [(0, "InvalidText"), (14, "NotMutual")], decide ((tl.map fun p => (He.cT K p.2).2).Nodup), prB K pr_Pattern_text, prB K pr_Pattern_height, prB K pr_Pattern_width]
def ex (K : PySem.W.Frag) : Bool := (exs K).all id
def d_figure_at : He.DefD := ⟨("figure_at", none), "figure_at", "figure_at", defArgs (top 13), defBody (top 13), defScope (top 13), [], []⟩
def d_first_wrong : He.DefD := ⟨("first_wrong", none), "first_wrong", "first_wrong", defArgs (top 14), defBody (top 14), defScope (top 14), [], []⟩
def d_rows_in : He.DefD := ⟨("rows_in", none), "rows_in", "rows_in", defArgs (top 11), defBody (top 11), defScope (top 11), [], []⟩
def d_Pattern___init__ : He.DefD := ⟨("Pattern", some "__init__"), "__init__", "Pattern.__init__", defArgs (mth 12 0), defBody (mth 12 0), defScope (mth 12 0), [], []⟩
def d_Pattern___eq__ : He.DefD := ⟨("Pattern", some "__eq__"), "__eq__", "Pattern.__eq__", defArgs (mth 12 7), defBody (mth 12 7), defScope (mth 12 7), [], []⟩
def d_Pattern___repr__ : He.DefD := ⟨("Pattern", some "__repr__"), "__repr__", "Pattern.__repr__", defArgs (mth 12 6), defBody (mth 12 6), defScope (mth 12 6), [], []⟩
def d_Pattern___str__ : He.DefD := ⟨("Pattern", some "__str__"), "__str__", "Pattern.__str__", defArgs (mth 12 5), defBody (mth 12 5), defScope (mth 12 5), [], []⟩
def d_is_integer : He.DefD := ⟨("is_integer", none), "is_integer", "is_integer", defArgs (top 8), defBody (top 8), defScope (top 8), [], []⟩
def d_Pattern_figure : He.DefD := ⟨("Pattern", some "figure"), "figure", "Pattern.figure", defArgs (mth 12 4), defBody (mth 12 4), defScope (mth 12 4), [], []⟩
def d_law_at : He.DefD := ⟨("_law_at", none), "_law_at", "_law_at", defArgs (top 22), defBody (top 22), defScope (top 22), [], []⟩
def d_law_roll : He.DefD := ⟨("_law_roll", none), "_law_roll", "_law_roll", defArgs (top 18), defBody (top 18), defScope (top 18), [], []⟩
def d_law_pick : He.DefD := ⟨("_law_pick", none), "_law_pick", "_law_pick", defArgs (top 20), defBody (top 20), defScope (top 20), [], []⟩
def d_law_bent : He.DefD := ⟨("_law_bent", none), "_law_bent", "_law_bent", defArgs (top 28), defBody (top 28), defScope (top 28), [], []⟩
def d_law_caught : He.DefD := ⟨("_law_caught", none), "_law_caught", "_law_caught", defArgs (top 27), defBody (top 27), defScope (top 27), [], []⟩
def d_law_shift : He.DefD := ⟨("_law_shift", none), "_law_shift", "_law_shift", defArgs (top 21), defBody (top 21), defScope (top 21), [], []⟩
def d_law_grid : He.DefD := ⟨("_law_grid", none), "_law_grid", "_law_grid", defArgs (top 23), defBody (top 23), defScope (top 23), [], []⟩
def d_law_read : He.DefD := ⟨("_law_read", none), "_law_read", "_law_read", defArgs (top 25), defBody (top 25), defScope (top 25), [], []⟩
def d_law_same : He.DefD := ⟨("_law_same", none), "_law_same", "_law_same", defArgs (top 19), defBody (top 19), defScope (top 19), [], []⟩
def d_law_spelled : He.DefD := ⟨("_law_spelled", none), "_law_spelled", "_law_spelled", defArgs (top 24), defBody (top 24), defScope (top 24), [], []⟩
def d_law_wrong : He.DefD := ⟨("_law_wrong", none), "_law_wrong", "_law_wrong", defArgs (top 26), defBody (top 26), defScope (top 26), [], []⟩
def d_law_case_right : He.DefD := ⟨("_law_case_right", none), "_law_case_right", "_law_case_right", defArgs (top 29), defBody (top 29), defScope (top 29), [], []⟩
def d_law_cell : He.DefD := ⟨("_law_cell", none), "_law_cell", "_law_cell", defArgs (top 16), defBody (top 16), defScope (top 16), [], []⟩
def d_law_purse : He.DefD := ⟨("_law_purse", none), "_law_purse", "_law_purse", defArgs (top 17), defBody (top 17), defScope (top 17), [], []⟩
def d_law : He.DefD := ⟨("law", none), "law", "law", defArgs (top 30), defBody (top 30), defScope (top 30), [], []⟩
def d_InvalidText___init__ : He.DefD := ⟨("InvalidText", some "__init__"), "__init__", "InvalidText.__init__", defArgs (mth 3 0), defBody (mth 3 0), defScope (mth 3 0), [], []⟩
def d_NotMutual___init__ : He.DefD := ⟨("NotMutual", some "__init__"), "__init__", "NotMutual.__init__", defArgs (mth 5 0), defBody (mth 5 0), defScope (mth 5 0), [], []⟩
def fn0 : List He.DefD := [d_figure_at, d_first_wrong, d_rows_in, d_Pattern___init__, d_Pattern___eq__, d_Pattern___repr__, d_Pattern___str__, d_is_integer, d_Pattern_figure, d_law_at, d_law_roll, d_law_pick, d_law_bent, d_law_caught, d_law_shift, d_law_grid, d_law_read, d_law_same, d_law_spelled, d_law_wrong, d_law_case_right, d_law_cell, d_law_purse, d_law, d_InvalidText___init__, d_NotMutual___init__]
def fn : List He.DefD := fn0
abbrev R : PySem.W.OpenRow := PySem.W.OpenLaw.row PySem.Challenge.rw_pairheld_k31_whole_patterns_made
def tf : List He.Defn := tl.map (·.2)
abbrev hk : PySem.W.Hook := hookP 5 fa fn ts tf ex prs
def ob (s : PySem.W.SharedT) : He.AlX × List FnV := obsP 5 fa fn ts tf ex prs (HandSHeadRun.getT s)
theorem ob_eq (s : PySem.W.SharedT) : ob s = hk.obs s.abs := obsP_eq (HandSHeadRun.getT_eq s)
def lo0 : List Str := ["__name__", "WrongValue", "NoAnswer", "InvalidText", "InvalidNumber", "NotMutual", "MOST_SIDE", "is_integer", "SHIFTS", "rows_in", "Pattern", "figure_at", "first_wrong", "_law_cell", "_law_purse", "_law_roll", "_law_same", "_law_pick", "_law_shift", "_law_at", "_law_grid", "_law_spelled", "_law_read", "_law_wrong", "_law_caught", "_law_bent", "_law_case_right"]
def lo : List Str := lo0
set_option maxHeartbeats 0 in
theorem run_f (w : World) : HandSHeadRun.RunEq R (PySem.W.view R.prog [30]) hk ob 8000 lo (w.withFollow "special-get-raises" false) := by intro os; kernel_rfl
set_option maxHeartbeats 0 in
theorem run_t (w : World) : HandSHeadRun.RunEq R (PySem.W.view R.prog [30]) hk ob 8000 lo (w.withFollow "special-get-raises" true) := by intro os; kernel_rfl
theorem run (w : World) : HandSHeadRun.RunEq R (PySem.W.view R.prog [30]) hk ob 8000 lo w :=
  PySem.W.byRow2 "special-get-raises" (P := fun w => HandSHeadRun.RunEq R (PySem.W.view R.prog [30]) hk ob 8000 lo w) run_f run_t w
end K31
set_option Elab.async false
set_option linter.all false
set_option maxRecDepth 100000
set_option maxHeartbeats 4000000
namespace KG
def Gap (S : Int → Int → Prop) (dx dy x y : Int) (m : Nat) : Prop := 0 < m ∧ S x y ∧ S (x + m * dx) (y + m * dy) ∧ ∀ j : Nat, 0 < j → j < m → ¬ S (x + j * dx) (y + j * dy)
def IsL (S : Int → Int → Prop) (dx dy : Int) : Option Nat → Prop
  | none => ∃ x y, ∀ k : Int, ¬ S (x + k * dx) (y + k * dy)
  | some M => (∀ x y, ∃ k : Int, S (x + k * dx) (y + k * dy)) ∧ (∃ x y, Gap S dx dy x y M) ∧ ∀ x y m, Gap S dx dy x y m → m ≤ M
theorem IsL.uniq {S : Int → Int → Prop} {dx dy : Int} {r r' : Option Nat} (h : IsL S dx dy r) (h' : IsL S dx dy r') : r = r' := by
  cases r with
  | none =>
    cases r' with
    | none => rfl
    | some M =>
      obtain ⟨x, y, n⟩ := h
      obtain ⟨k, hk⟩ := h'.1 x y
      exact (n k hk).elim
  | some M =>
    cases r' with
    | none =>
      obtain ⟨x, y, n⟩ := h'
      obtain ⟨k, hk⟩ := h.1 x y
      exact (n k hk).elim
    | some M' =>
      obtain ⟨_, ⟨x, y, g⟩, u⟩ := h
      obtain ⟨_, ⟨x', y', g'⟩, u'⟩ := h'
      have a := u' x y M g
      have b := u x' y' M' g'
      have : M = M' := by omega
      rw [this]
/-- the same, seen through a change of places -/
theorem IsL.map {S S' : Int → Int → Prop} {dx dy dx' dy' : Int} (p q : Int → Int → Int) (hS : ∀ x y, S' x y ↔ S (p x y) (q x y)) (h1 : ∀ x y k, p (x + k * dx') (y + k * dy') = p x y + k * dx) (h2 : ∀ x y k, q (x + k * dx') (y + k * dy') = q x y + k * dy)
    (sur : ∀ u v, ∃ x y, p x y = u ∧ q x y = v) {r : Option Nat} (h : IsL S' dx' dy' r) : IsL S dx dy r := by
  have gp : ∀ x y m, Gap S' dx' dy' x y m ↔ Gap S dx dy (p x y) (q x y) m := fun x y m => by
    unfold Gap
    simp only [hS, h1, h2]
  cases r with
  | none =>
    obtain ⟨x, y, n⟩ := h
    refine ⟨p x y, q x y, fun k => ?_⟩
    rw [← h1, ← h2, ← hS]
    exact n k
  | some M =>
    obtain ⟨a, ⟨x, y, g⟩, u⟩ := h
    refine ⟨fun s t => ?_, ⟨p x y, q x y, (gp x y M).mp g⟩, fun s t m hg => ?_⟩
    · obtain ⟨x, y, rfl, rfl⟩ := sur s t
      obtain ⟨k, hk⟩ := a x y
      exact ⟨k, by rw [← h1, ← h2, ← hS]; exact hk⟩
    · obtain ⟨x, y, rfl, rfl⟩ := sur s t
      exact u x y m ((gp x y m).mpr hg)
/-- the other way along -/
theorem Gap.rev {S : Int → Int → Prop} {dx dy x y : Int} {m : Nat} (g : Gap S dx dy x y m) : Gap S (-dx) (-dy) (x + m * dx) (y + m * dy) m := by
  obtain ⟨h0, h1, h2, h3⟩ := g
  have e : ∀ (u v : Int) (j : Nat), u + m * v + j * -v = u + ((m : Int) - j) * v := fun u v j => by
    rw [Int.sub_mul, Int.mul_neg]; omega
  refine ⟨h0, h2, ?_, fun j j0 j1 => ?_⟩
  · rw [e, e, Int.sub_self, Int.zero_mul, Int.zero_mul, Int.add_zero, Int.add_zero]
    exact h1
  · rw [e, e]
    have : (m : Int) - j = ((m - j : Nat) : Int) := by omega
    rw [this]
    exact h3 (m - j) (by omega) (by omega)
theorem IsL.rev {S : Int → Int → Prop} {dx dy : Int} {r : Option Nat} (h : IsL S dx dy r) : IsL S (-dx) (-dy) r := by
  have e : ∀ (u v k : Int), u + k * -v = u + (-k) * v := fun u v k => by rw [Int.mul_neg, Int.neg_mul]
  cases r with
  | none =>
    obtain ⟨x, y, n⟩ := h
    exact ⟨x, y, fun k => by rw [e, e]; exact n (-k)⟩
  | some M =>
    obtain ⟨a, ⟨x, y, g⟩, u⟩ := h
    refine ⟨fun s t => ?_, ⟨_, _, g.rev⟩, fun s t m hg => ?_⟩
    · obtain ⟨k, hk⟩ := a s t
      exact ⟨-k, by rw [e, e, Int.neg_neg]; exact hk⟩
    · have g' := hg.rev
      rw [Int.neg_neg, Int.neg_neg] at g'
      exact u _ _ m g'
def nexts : List Nat → Nat → List (Nat × Nat)
  | [], _ => []
  | [a], e => [(a, e)]
  | a :: b :: r, e => (a, b) :: nexts (b :: r) e
theorem nexts_zip (e : Nat) : ∀ l : List Nat, List.zip l (l.drop 1 ++ [e]) = nexts l e
  | [] => rfl
  | [a] => rfl
  | a :: b :: r => by
    have := nexts_zip e (b :: r)
    simp only [List.drop_succ_cons, List.drop_zero, List.cons_append, List.zip_cons_cons, nexts] at this ⊢
    rw [this]
theorem head_low {P : Nat → Bool} : ∀ (m s a : Nat) (r : List Nat), (List.range' s m).filter P = a :: r → s ≤ a ∧ a < s + m ∧ P a = true ∧ ∀ j, s ≤ j → j < a → P j = false
  | 0, s, a, r, h => by simp at h
  | m + 1, s, a, r, h => by
    rw [List.range'_succ, List.filter_cons] at h
    cases hp : P s with
    | true =>
      rw [if_pos hp] at h
      injection h with h1 h2
      subst h1
      exact ⟨Nat.le_refl _, by omega, hp, fun j a b => by omega⟩
    | false =>
      rw [if_neg (by rw [hp]; exact Bool.false_ne_true)] at h
      obtain ⟨h1, h2, h3, h4⟩ := head_low m (s + 1) a r h
      refine ⟨by omega, by omega, h3, fun j j1 j2 => ?_⟩
      by_cases q : j = s
      · rw [q]; exact hp
      · exact h4 j (by omega) j2
theorem none_low {P : Nat → Bool} {m s : Nat} (h : (List.range' s m).filter P = []) {j : Nat} (h1 : s ≤ j) (h2 : j < s + m) : P j = false := by
  rw [List.filter_eq_nil_iff] at h
  have := h j (by rw [List.mem_range'_1]; omega)
  simpa using this
theorem nexts_ok {P : Nat → Bool} (e : Nat) (he : P e = true) : ∀ (m s : Nat), s + m ≤ e → (∀ j, s + m ≤ j → j < e → P j = false) → ∀ a b, (a, b) ∈ nexts ((List.range' s m).filter P) e → a < b ∧ P a = true ∧ P b = true ∧ ∀ j, a < j → j < b → P j = false
  | 0, s, _, _, a, b, h => by simp [nexts] at h
  | m + 1, s, hle, hno, a, b, h => by
    have ih := nexts_ok e he m (s + 1) (by omega) (fun j j1 j2 => hno j (by omega) j2)
    rw [List.range'_succ, List.filter_cons] at h
    cases hp : P s with
    | false =>
      rw [if_neg (by rw [hp]; exact Bool.false_ne_true)] at h
      exact ih a b h
    | true =>
      rw [if_pos hp] at h
      cases q : (List.range' (s + 1) m).filter P with
      | nil =>
        rw [q] at h
        simp only [nexts, List.mem_singleton, Prod.mk.injEq] at h
        obtain ⟨rfl, rfl⟩ := h
        refine ⟨by omega, hp, he, fun j j1 j2 => ?_⟩
        by_cases z : j < a + 1 + m
        · exact none_low q (by omega) z
        · exact hno j (by omega) j2
      | cons c r =>
        rw [q] at h
        simp only [nexts, List.mem_cons, Prod.mk.injEq] at h
        rcases h with ⟨rfl, rfl⟩ | h
        · obtain ⟨h1, h2, h3, h4⟩ := head_low m (a + 1) b r q
          exact ⟨by omega, hp, h3, fun j j1 j2 => h4 j (by omega) j2⟩
        · exact ih a b (by rw [q]; exact h)
theorem nexts_head {l : List Nat} {a e : Nat} {r : List Nat} (h : l = a :: r) : ∃ b, (a, b) ∈ nexts l e := by
  subst h
  cases r with
  | nil => exact ⟨e, by simp [nexts]⟩
  | cons c r => exact ⟨c, by simp [nexts]⟩
end KG
set_option Elab.async false
set_option linter.all false
set_option maxRecDepth 100000
set_option maxHeartbeats 4000000
namespace K33
open PySem L2 TL
def pur (a b c : Int) : VO := .lst [.int a, .int b, .int c]
/-- a purse stands at n -/
def IsP (o : VO) : Prop := ∃ a b c, o = pur a b c ∧ 0 ≤ b ∧ b < 2147483543
def Pu (n : Nat) (h : VH) : Prop := ∃ o, h[n]? = some o ∧ IsP o
theorem Pu.set {n : Nat} {h : VH} {o : VO} (hp : Pu n h) (ho : IsP o) : Pu n (h.set n o) := by
  obtain ⟨o', e, _⟩ := hp
  exact ⟨o, List.getElem?_set_self (List.getElem?_eq_some_iff.mp e).1, ho⟩
theorem roll_ok {n : Nat} {h : VH} {k : Int} (hp : Pu n h) (hk : 0 < k) (hk2 : k < 1000000) : ∃ r o, m_law_roll [.ref n, .int k] h = .ok (.int r) (h.set n o) ∧ 0 ≤ r ∧ r < k ∧ IsP o := by
  obtain ⟨o, e, a, b, c, rfl, hb, hb2⟩ := hp
  have hn : n < h.length := (List.getElem?_eq_some_iff.mp e).1
  unfold pur at e
  have hs : ∀ x : VO, (h.set n x)[n]? = some x := fun x => List.getElem?_set_self hn
  clear hn
  by_cases ha : 0 < a
  · refine ⟨a % k, pur (a / k) b (c + 1), ?_, Int.emod_nonneg _ (by omega), Int.emod_lt_of_pos _ hk, _, _, _, rfl, hb, hb2⟩
    have hq : Builtin.divisionGoesByPylong a k = false := PyProof.noPylong_small (by omega)
    simp [m_law_roll, s_law_roll, defM, startT, sSeq, sSet, sRet, sIf, sExpr, sNil, sAsg, sPar, sPar3, eVar, eK, eOp, eCall, mCall, eL, eH, aLim, aNil, aCons, aStar, eTup, eIf, bTest, TL.bAnd, TL.bOr, TL.bNot, bYes, eAnd, eOr, eNot, eNeg, eChain, eFld, getI, mgName, mgTup, mgsCons, mgsNil, mgSub, bSub, bMod, bFdv, bPow, bI, bI0, bAdd, bMul, bLt, bLe, bGt, bGe, bOrdG, bIs, bIsn, bIsG, TL.isNon, bIx, bSetL, fLen, fList, fTuple, fMax2, fMin2, fII, fAbs, fInt, fDivmod, TL.listOf, seqOf, tupOf, atI, ixN, List.getElem?_cons_zero, List.getElem?_cons_succ, List.set_cons_zero, List.set_cons_succ, List.map, List.length_cons, List.length_nil, List.replicate, List.append_nil, List.cons_append, List.nil_append, Option.bind_some, Option.bind, e, ha, hk, hq, hs, pur]
  · have hm : cMul b (b + 50021) = true := by
      unfold cMul
      rw [Bool.or_eq_true, Bool.and_eq_true]
      exact .inl ⟨decide_eq_true (by omega), decide_eq_true (by omega)⟩
    have hm2 : cMul 91229 (c + 1) = true := by
      unfold cMul
      rw [Bool.or_eq_true, Bool.and_eq_true]
      exact .inl ⟨by decide, by decide⟩
    refine ⟨(b * (b + 50021) + 91229 * (c + 1)) % 2147483543 / 128 % k, pur a ((b * (b + 50021) + 91229 * (c + 1)) % 2147483543) (c + 1), ?_, Int.emod_nonneg _ (by omega), Int.emod_lt_of_pos _ hk, _, _, _, rfl, Int.emod_nonneg _ (by omega), Int.emod_lt_of_pos _ (by omega)⟩
    simp [m_law_roll, s_law_roll, defM, startT, sSeq, sSet, sRet, sIf, sExpr, sNil, sAsg, sPar, sPar3, eVar, eK, eOp, eCall, mCall, eL, eH, aLim, aNil, aCons, aStar, eTup, eIf, bTest, TL.bAnd, TL.bOr, TL.bNot, bYes, eAnd, eOr, eNot, eNeg, eChain, eFld, getI, mgName, mgTup, mgsCons, mgsNil, mgSub, bSub, bMod, bFdv, bPow, bI, bI0, bAdd, bMul, bLt, bLe, bGt, bGe, bOrdG, bIs, bIsn, bIsG, TL.isNon, bIx, bSetL, fLen, fList, fTuple, fMax2, fMin2, fII, fAbs, fInt, fDivmod, TL.listOf, seqOf, tupOf, atI, ixN, List.getElem?_cons_zero, List.getElem?_cons_succ, List.set_cons_zero, List.set_cons_succ, List.map, List.length_cons, List.length_nil, List.replicate, List.append_nil, List.cons_append, List.nil_append, Option.bind_some, Option.bind, e, ha, hk, hs, hm, hm2, pur]
def dig (d : Nat) : Str := ⟨#[48 + d]⟩
def rowS (r : List Nat) : Str := ⟨(r.map (48 + ·)).toArray⟩
def rowsT (G : List (List Nat)) : T := .lst (G.map fun r => .str (rowS r))
def gridT (G : List (List Nat)) : T := .lst (G.map fun r => .lst (r.map fun d => .int (d : Nat)))
structure Dim (G : List (List Nat)) (W H : Nat) : Prop where
  len : G.length = H
  h0 : 0 < H
  h1 : H ≤ 12
  row : ∀ r ∈ G, r.length = W
  w0 : 0 < W
  w1 : W ≤ 12
def rowAt (G : List (List Nat)) (H : Nat) (y : Int) : List Nat := G.getD (y % H).toNat []
def cell (G : List (List Nat)) (W H : Nat) (x y : Int) : Nat := (rowAt G H y).getD (x % W).toNat 0
section
variable {G : List (List Nat)} {W H : Nat}
theorem mod_lt' (y : Int) {H : Nat} (h : 0 < H) : (y % H).toNat < H := by
  have a := Int.emod_nonneg y (b := (H : Int)) (by omega)
  have b := Int.emod_lt_of_pos y (b := (H : Int)) (by omega)
  omega
theorem Dim.rowAt_mem (D : Dim G W H) (y : Int) : rowAt G H y ∈ G := by
  unfold rowAt
  have h := mod_lt' y D.h0
  rw [List.getD_eq_getElem?_getD, List.getElem?_eq_getElem (by rw [D.len]; exact h)]
  exact List.getElem_mem _
theorem Dim.ixRow (D : Dim G W H) {α : Type} (f : List Nat → α) (y : Int) : atI (G.map f) (y % H) = some (f (rowAt G H y)) := by
  have h := mod_lt' y D.h0
  have a := Int.emod_nonneg y (b := (H : Int)) (by have := D.h0; omega)
  have b := Int.emod_lt_of_pos y (b := (H : Int)) (by have := D.h0; omega)
  rw [ix_nn a (by rw [List.length_map, D.len]; exact b), List.getElem?_map]
  unfold rowAt
  rw [List.getD_eq_getElem?_getD, List.getElem?_eq_getElem (by rw [D.len]; exact h)]
  rfl
theorem Dim.ixCell (D : Dim G W H) {α : Type} (f : Nat → α) (x y : Int) : atI ((rowAt G H y).map f) (x % W) = some (f (cell G W H x y)) := by
  have hl := D.row _ (D.rowAt_mem y)
  have h := mod_lt' x D.w0
  have a := Int.emod_nonneg x (b := (W : Int)) (by have := D.w0; omega)
  have b := Int.emod_lt_of_pos x (b := (W : Int)) (by have := D.w0; omega)
  rw [ix_nn a (by rw [List.length_map, hl]; exact b), List.getElem?_map]
  unfold cell
  rw [List.getD_eq_getElem?_getD, List.getElem?_eq_getElem (by rw [hl]; exact h)]
  rfl
theorem rowS_len (r : List Nat) : (rowS r).length = r.length := by simp [rowS, Str.length]
theorem fig_ok (D : Dim G W H) {o : T} {u : T} {h : VH} (ho : getI h o = some (2, [u, rowsT G])) (x y : Int) : m_figure_at [o, .int x, .int y] h = .ok (.str (dig (cell G W H x y))) h := by
  have e1 := D.ixRow (fun r => T.str (rowS r)) y
  have e2 : atI (rowS (rowAt G H y)).cps.toList (x % W) = some (48 + cell G W H x y) := D.ixCell (48 + ·) x y
  have e3 : (rowS (rowAt G H y)).length = W := by rw [rowS_len, D.row _ (D.rowAt_mem y)]
  have e4 := D.len
  have e5 := D.h0
  have e6 := D.w0
  unfold rowsT at ho
  simp [m_figure_at, s_figure_at, defM, startT, sSeq, sSet, sRet, sIf, sExpr, sNil, sAsg, sPar, sPar3, eVar, eK, eOp, eCall, mCall, eL, eH, aLim, aNil, aCons, aStar, eTup, eIf, bTest, TL.bAnd, TL.bOr, TL.bNot, bYes, eAnd, eOr, eNot, eNeg, eChain, eFld, mgName, mgTup, mgsCons, mgsNil, mgSub, bSub, bMod, bFdv, bPow, bI, bI0, bAdd, bMul, bLt, bLe, bGt, bGe, bOrdG, bIs, bIsn, bIsG, TL.isNon, bIx, bSetL, fLen, fList, fTuple, fMax2, fMin2, fII, fAbs, fInt, fDivmod, TL.listOf, seqOf, tupOf, List.getElem?_cons_zero, List.getElem?_cons_succ, List.set_cons_zero, List.set_cons_succ, List.map, List.length_cons, List.length_nil, List.replicate, List.append_nil, List.cons_append, List.nil_append, Option.bind_some, Option.bind, ho, e1, e2, e3, e4, e5, e6, dig]
end
end K33
set_option Elab.async false
set_option linter.all false
set_option maxRecDepth 100000
set_option maxHeartbeats 400000
namespace K33
open PySem L2 TL
theorem ten {P : Nat → Prop} (h0 : P 0) (h1 : P 1) (h2 : P 2) (h3 : P 3) (h4 : P 4) (h6 : P 6) (h7 : P 7) (h8 : P 8) (h9 : P 9) (d : Nat) (hd : d < 10) (h5 : d ≠ 5) : P d := by
  have : d = 0 ∨ d = 1 ∨ d = 2 ∨ d = 3 ∨ d = 4 ∨ d = 6 ∨ d = 7 ∨ d = 8 ∨ d = 9 := by omega
  rcases this with rfl | rfl | rfl | rfl | rfl | rfl | rfl | rfl | rfl <;> assumption
def sx : Nat → Int
  | 6 => 1 | 4 => -1 | 9 => 1 | 1 => -1 | 7 => -1 | 3 => 1 | _ => 0
def sy : Nat → Int
  | 8 => 1 | 2 => -1 | 9 => 1 | 1 => -1 | 7 => 1 | 3 => -1 | _ => 0
theorem str_dig (d : Nat) (hd : d < 10) (h5 : d ≠ 5) : Str.ofString (toString ((d : Nat) : Int)) = dig d := by
  refine ten (P := fun d => Str.ofString (toString ((d : Nat) : Int)) = dig d) ?_ ?_ ?_ ?_ ?_ ?_ ?_ ?_ ?_ d hd h5 <;> decide +kernel
theorem fStr_dig (h : VH) (d : Nat) (hd : d < 10) (h5 : d ≠ 5) : fStr [.int (d : Nat)] h = .ok (.str (dig d)) h := by
  have e := str_dig d hd h5
  have e2 : Nat.log2 (((d : Nat) : Int).natAbs) < 1920 := by
    refine ten (P := fun d => Nat.log2 (((d : Nat) : Int).natAbs) < 1920) ?_ ?_ ?_ ?_ ?_ ?_ ?_ ?_ ?_ d hd h5 <;> decide +kernel
  have e3 : (dig d).length ≤ 1000000 := by show (#[48 + d] : Array Nat).size ≤ _; simp
  unfold fStr
  simp only [e]
  rw [if_pos ⟨e2, e3⟩]
theorem fInt_dig (h : VH) (d : Nat) (hd : d < 10) (h5 : d ≠ 5) : fInt [.str (dig d)] h = .ok (.int d) h := by
  have e : intText? (dig d) = some (d : Int) := by
    refine ten (P := fun d => intText? (dig d) = some (d : Int)) ?_ ?_ ?_ ?_ ?_ ?_ ?_ ?_ ?_ d hd h5 <;> decide +kernel
  have e3 : (dig d).length ≤ 640 := by show (#[48 + d] : Array Nat).size ≤ _; simp
  unfold fInt
  simp only [e]
  rw [if_pos e3]
theorem in_dig (h : VH) (d : Nat) (hd : d < 10) (h5 : d ≠ 5) : bIn (.str (dig d)) (.str "012346789") h = .ok (.bl true) h := by
  have e : bInS false (dig d) "012346789" = true := by
    refine ten (P := fun d => bInS false (dig d) "012346789" = true) ?_ ?_ ?_ ?_ ?_ ?_ ?_ ?_ ?_ d hd h5 <;> decide +kernel
  unfold bIn bInG
  simp only [e]
theorem sh_dig (d : Nat) (hd : d < 10) (h5 : d ≠ 5) (h0 : d ≠ 0) : kv_SHIFTS.lookup (dig d) = some (.tup [.int (sx d), .int (sy d)]) := by
  refine ten (P := fun d => d ≠ 0 → kv_SHIFTS.lookup (dig d) = some (.tup [.int (sx d), .int (sy d)])) ?_ ?_ ?_ ?_ ?_ ?_ ?_ ?_ ?_ d hd h5 h0
  · intro z; exact absurd rfl z
  all_goals intro _; rfl
def spell (G : List (List Nat)) : Str := Str.join "/" (G.reverse.map rowS)
theorem join_digs (r : List Nat) : Txt.join "" (r.map dig) = rowS r := by
  rw [join_eq]
  apply ext_tl
  rw [tl_join]
  have e : tl ("" : Str) = [] := by decide
  rw [e]
  show _ = r.map (48 + ·)
  induction r with
  | nil => rfl
  | cons a r ih =>
    cases r with
    | nil => rfl
    | cons b r =>
      simp only [List.map_cons, joinL] at ih ⊢
      rw [ih]
      rfl
structure Digs (G : List (List Nat)) : Prop where
  lt : ∀ r ∈ G, ∀ d ∈ r, d < 10
  n5 : ∀ r ∈ G, ∀ d ∈ r, d ≠ 5
section
variable {G : List (List Nat)} {W H : Nat}
theorem sum_len (r : List Nat) : ((r.map dig).map (·.length)).sum = r.length := by
  induction r with
  | nil => rfl
  | cons a r ih => simp only [List.map_cons, List.sum_cons, ih, List.length_cons]; show 1 + _ = _; omega
theorem tl_rowS (r : List Nat) : tl (rowS r) = r.map (48 + ·) := rfl
theorem rows_sum (D : Dim G W H) : ((G.reverse.map rowS).map (·.length)).sum ≤ 144 := by
  have : ∀ l : List (List Nat), (∀ r ∈ l, r.length = W) → ((l.map rowS).map (·.length)).sum = l.length * W := by
    intro l hl
    induction l with
    | nil => simp
    | cons a l ih =>
      simp only [List.map_cons, List.sum_cons, List.length_cons]
      rw [ih fun r hr => hl r (List.mem_cons_of_mem _ hr), rowS_len, hl a List.mem_cons_self, Nat.succ_mul]
      omega
  rw [this G.reverse fun r hr => D.row r (by simpa using hr), List.length_reverse, D.len]
  have h1 := D.h1
  have h2 := D.w1
  exact Nat.le_trans (Nat.mul_le_mul h1 h2) (by omega)
theorem inner_spell {r : List Nat} (hr : ∀ d ∈ r, d < 10) (h5 : ∀ d ∈ r, d ≠ 5) (hl : r.length ≤ 12) (g c : Option T) (h : VH) :
    mLc (iSeqC (eVar 1)) [2] (mgName 2) bYes (eCall fStr (aCons (eVar 2) aNil)) [g, some (.lst (r.map fun d => .int (d : Nat))), c] h = .ok (r.map fun d => .str (dig d)) h := by
  have z := mLc_map (mi := iSeqC (eVar 1)) (ws := [2]) (g := mgName 2) (e := eCall fStr (aCons (eVar 2) aNil)) (τ := [g, some (.lst (r.map fun d => .int (d : Nat))), c]) (h := h) (rd := fun h => seqS h (.lst (r.map fun d => .int (d : Nat)))) (ts := r.map fun d => .int (d : Nat))
    (by simp [iSeqC, eVar, walkable, seqS, seqOf, TL.listOf]) (by simp [seqS, seqOf, TL.listOf]) (by rw [List.length_map]; omega) (fun t => match t with | .int i => .str (Str.ofString (toString i)) | t => t) (fun t ht => by
      obtain ⟨d, hd, rfl⟩ := List.mem_map.mp ht
      refine ⟨_, rfl, ?_⟩
      simp only [eCall, aCons, aNil, eVar, wipeT, List.set_cons_succ, List.set_cons_zero, List.getElem?_cons_succ, List.getElem?_cons_zero, fStr_dig h d (hr d hd) (h5 d hd), str_dig d (hr d hd) (h5 d hd)])
  rw [z, List.map_map]
  congr 1
  refine List.map_congr_left fun d hd => ?_
  simp only [Function.comp, str_dig d (hr d hd) (h5 d hd)]
theorem spelled_ok (D : Dim G W H) (A : Digs G) (h : VH) : m_law_spelled [gridT G] h = .ok (.str (spell G)) h := by
  have inner : ∀ c, mLc (iSeqC (eRev (eVar 0))) [1] (mgName 1) bYes (eMt "str" mJoin (eK (.str "")) (aCons (eL (mLc (iSeqC (eVar 1)) [2] (mgName 2) bYes (eCall fStr (aCons (eVar 2) aNil)))) aNil)) [some (gridT G), c, none] h = .ok (G.reverse.map fun r => .str (rowS r)) h := by
    intro c
    have z := mLc_map (mi := iSeqC (eRev (eVar 0))) (ws := [1]) (g := mgName 1) (e := eMt "str" mJoin (eK (.str "")) (aCons (eL (mLc (iSeqC (eVar 1)) [2] (mgName 2) bYes (eCall fStr (aCons (eVar 2) aNil)))) aNil)) (τ := [some (gridT G), c, none]) (h := h)
      (rd := fun h => seqS h (.lst (G.map fun r => T.lst (r.map fun d => .int (d : Nat))).reverse)) (ts := G.reverse.map fun r => T.lst (r.map fun d => .int (d : Nat)))
      (by simp [iSeqC, eRev, eVar, gridT, walkable, seqS, seqOf, TL.listOf]) (by simp [seqS, seqOf, TL.listOf]) (by rw [List.length_map, List.length_reverse, D.len]; have := D.h1; omega)
      (fun t => match t with | .lst ts => .str (rowS (ts.map fun u => match u with | .int i => i.toNat | _ => 0)) | t => t) (fun t ht => by
        obtain ⟨r, hr, rfl⟩ := List.mem_map.mp ht
        have hr' : r ∈ G := by simpa using hr
        refine ⟨_, rfl, ?_⟩
        have hl : r.length ≤ 12 := by rw [D.row r hr']; exact D.w1
        have i := inner_spell (A.lt r hr') (A.n5 r hr') hl (some (gridT G)) none h
        have e1 : strsOf (r.map fun d => T.str (dig d)) = some (r.map dig) := by
          have := strsOf_map (r.map dig)
          rw [List.map_map] at this
          exact this
        have e2 := sum_len r
        have e3 : ("" : Str).length = 0 := by decide
        have e4 : (r.map fun d => T.int (d : Nat)).map (fun u => match u with | .int i => i.toNat | _ => 0) = r := by
          rw [List.map_map]
          exact (List.map_congr_left fun d _ => rfl).trans (List.map_id r)
        simp only [eMt, eK, tyT, aCons, aNil, eL, wipeT, List.set_cons_succ, List.set_cons_zero, i, mJoin, seqOf, TL.listOf, e1, e2, e3, e4, join_digs, beq_self_eq_true, if_true]
        rw [if_pos (by rw [List.length_map]; omega)])
    rw [z, List.map_map]
    congr 1
    refine List.map_congr_left fun r hr => ?_
    have e4 : (r.map fun d => T.int (d : Nat)).map (fun u => match u with | .int i => i.toNat | _ => 0) = r := by
      rw [List.map_map]
      exact (List.map_congr_left fun d _ => rfl).trans (List.map_id r)
    simp only [Function.comp, e4]
  have e1 : strsOf (G.reverse.map fun r => T.str (rowS r)) = some (G.reverse.map rowS) := by
    have := strsOf_map (G.reverse.map rowS)
    rw [List.map_map] at this
    exact this
  have e2 : ((G.reverse.map rowS).map (·.length)).sum + (G.reverse.map rowS).length * ("/" : Str).length ≤ 1000000 := by
    have e := rows_sum D
    have e1 : ("/" : Str).length = 1 := by decide
    rw [e1, List.length_map, List.length_reverse, D.len]
    have := D.h1
    omega
  have e3 : Txt.join "/" (G.reverse.map rowS) = spell G := join_eq _ _
  simp only [m_law_spelled, s_law_spelled, defM, startT, sRet, eMt, eK, tyT, aCons, aNil, eL, List.map_cons, List.map_nil, List.length_cons, List.length_nil, List.cons_append, List.nil_append, Nat.reduceAdd, Nat.reduceSub, List.replicate, inner, mJoin, seqOf, TL.listOf, e1, e3, beq_self_eq_true, if_true]
  rw [if_pos e2]
end
end K33
set_option Elab.async false
set_option linter.all false
set_option maxRecDepth 100000
set_option maxHeartbeats 400000
namespace K33
open PySem L2 TL
section
variable {G : List (List Nat)} {W H : Nat}
theorem split_spell (D : Dim G W H) : Txt.split (spell G) "/" = G.reverse.map rowS := by
  unfold spell
  rw [← join_eq]
  refine split_join (y := ("/" : Str)) (s := 47) (S := []) (by decide +kernel) (by decide +kernel) (by
    intro z
    have := congrArg List.length z
    rw [List.length_map, List.length_reverse, D.len] at this
    have z0 := D.h0
    rw [List.length_nil] at this
    omega) fun p hp => ?_
  obtain ⟨r, hr, rfl⟩ := List.mem_map.mp hp
  rw [tl_rowS]
  intro z
  obtain ⟨d, _, e⟩ := List.mem_map.mp z
  omega
theorem signs_row (r : List Nat) : signsT (rowS r) = r.map fun d => .str (dig d) := by
  unfold signsT rowS
  show List.map _ (List.map _ r) = _
  rw [List.map_map]
  rfl
theorem all_true {α : Type} (l : List α) : (l.map fun _ => true).all id = true := by
  induction l with
  | nil => rfl
  | cons a l ih => simpa using ih
theorem inner_in {r : List Nat} (hr : ∀ d ∈ r, d < 10) (h5 : ∀ d ∈ r, d ≠ 5) (hl : r.length ≤ 12) (a b c : Option T) (h : VH) :
    mLc (iSeqC (eVar 2)) [3] (mgName 3) bYes (eOp bIn (eVar 3) (eK (.str "012346789"))) [a, b, some (.str (rowS r)), c] h = .ok (r.map fun _ => .bl true) h := by
  have z := mLc_map (mi := iSeqC (eVar 2)) (ws := [3]) (g := mgName 3) (e := eOp bIn (eVar 3) (eK (.str "012346789"))) (τ := [a, b, some (.str (rowS r)), c]) (h := h) (rd := fun h => seqS h (.str (rowS r))) (ts := r.map fun d => .str (dig d))
    (by simp [iSeqC, eVar, walkable, seqS]) (by simp [seqS, signs_row]) (by rw [List.length_map]; omega) (fun _ => .bl true) (fun t ht => by
      obtain ⟨d, hd, rfl⟩ := List.mem_map.mp ht
      refine ⟨_, rfl, ?_⟩
      simp only [eOp, eK, eVar, wipeT, List.set_cons_succ, List.set_cons_zero, List.getElem?_cons_succ, List.getElem?_cons_zero, in_dig h d (hr d hd) (h5 d hd)])
  rw [z, List.map_map]
  rfl
theorem all_bl {α : Type} (l : List α) (h : VH) : fAll [.lst (l.map fun _ => T.bl true)] h = .ok (.bl true) h := by
  have e : blsOf (l.map fun _ => T.bl true) = some (l.map fun _ => true) := by
    have := blsOf_map (l.map fun _ => true)
    rw [List.map_map] at this
    exact this
  unfold fAll fBls
  simp only [TL.listOf, e, all_true]
theorem rows_ok (D : Dim G W H) (A : Digs G) (h : VH) : m_rows_in [.str (spell G)] h = .ok (rowsT G) h := by
  have es := split_spell D
  have hl : G.reverse.length = H := by rw [List.length_reverse, D.len]
  have sh : shortAll (G.reverse.map rowS) = true := by
    unfold shortAll
    rw [List.all_eq_true]
    intro x hx
    obtain ⟨r, hr, rfl⟩ := List.mem_map.mp hx
    have := D.row r (by simpa using hr)
    have := D.w1
    exact decide_eq_true (by rw [rowS_len]; omega)
  have h0 := D.h0
  have h1 := D.h1
  have w0 := D.w0
  have w1 := D.w1
  have hm : (G.reverse.map rowS).map T.str = G.reverse.map fun r => .str (rowS r) := by rw [List.map_map]; rfl
  have hll : (G.reverse.map fun r => T.str (rowS r)).length = H := by rw [List.length_map, hl]
  obtain ⟨r0, er0, hr0⟩ : ∃ r0, atI (G.reverse.map fun r => T.str (rowS r)) 0 = some (.str (rowS r0)) ∧ r0 ∈ G := by
    rw [ix_nn (Int.le_refl _) (by rw [hll]; omega), List.getElem?_map]
    have : (0 : Nat) < G.reverse.length := by omega
    refine ⟨G.reverse[0], ?_, by simpa using List.getElem_mem this⟩
    show Option.map _ G.reverse[0]? = _
    rw [List.getElem?_eq_getElem this]
    rfl
  have el0 : (rowS r0).length = W := by rw [rowS_len, D.row r0 hr0]
  have outer : ∀ a c d, mLc (iSeqC (eVar 1)) [2] (mgName 2) bYes (eAnd (eOp bEq (eCall fLen (aCons (eVar 2) aNil)) (eCall fLen (aCons (eOp bIx (eVar 1) (eK (.int 0))) aNil))) (eCall fAll (aCons (eL (mLc (iSeqC (eVar 2)) [3] (mgName 3) bYes (eOp bIn (eVar 3) (eK (.str "012346789"))))) aNil))) [a, some (.lst (G.reverse.map fun r => .str (rowS r))), c, d] h = .ok (G.reverse.map fun _ => .bl true) h := by
    intro a c d
    have z := mLc_map (mi := iSeqC (eVar 1)) (ws := [2]) (g := mgName 2) (e := eAnd (eOp bEq (eCall fLen (aCons (eVar 2) aNil)) (eCall fLen (aCons (eOp bIx (eVar 1) (eK (.int 0))) aNil))) (eCall fAll (aCons (eL (mLc (iSeqC (eVar 2)) [3] (mgName 3) bYes (eOp bIn (eVar 3) (eK (.str "012346789"))))) aNil)))
      (τ := [a, some (.lst (G.reverse.map fun r => .str (rowS r))), c, d]) (h := h) (rd := fun h => seqS h (.lst (G.reverse.map fun r => .str (rowS r)))) (ts := G.reverse.map fun r => .str (rowS r))
      (by simp [iSeqC, eVar, walkable, seqS, seqOf, TL.listOf]) (by simp [seqS, seqOf, TL.listOf]) (by rw [hll]; omega) (fun _ => .bl true) (fun t ht => by
        obtain ⟨r, hr, rfl⟩ := List.mem_map.mp ht
        have hr' : r ∈ G := by simpa using hr
        have el : (rowS r).length = W := by rw [rowS_len, D.row r hr']
        refine ⟨_, rfl, ?_⟩
        have i := inner_in (A.lt r hr') (A.n5 r hr') (by rw [D.row r hr']; exact D.w1) a (some (.lst (G.reverse.map fun r => .str (rowS r)))) d h
        have ei : ∀ x : Int, PyData.eqv (.int x) (.int x) = true := fun x => by simp [PyData.eqv]
        simp only [eAnd, eOp, eCall, aCons, aNil, eL, eK, eVar, wipeT, List.set_cons_succ, List.set_cons_zero, List.getElem?_cons_succ, List.getElem?_cons_zero, fLen, bIx, TL.listOf, er0, el, el0, bEq, bEqG, dat_int, ei, i, all_bl])
    rw [z, List.map_map]
    rfl
  have a1 := all_bl G.reverse h
  have c1 : bLe (.int 1) (.int H) h = .ok (.bl true) h := by simp [bLe, bOrdG]; omega
  have c2 : bLe (.int H) (.int 12) h = .ok (.bl true) h := by simp [bLe, bOrdG]; omega
  have c3 : bLe (.int 1) (.int W) h = .ok (.bl true) h := by simp [bLe, bOrdG]; omega
  have c4 : bLe (.int W) (.int 12) h = .ok (.bl true) h := by simp [bLe, bOrdG]; omega
  have ez : (("/" : Str).length == 0) = false := by decide
  have hz : (G.reverse.map rowS).length ≤ 16777216 := by rw [List.length_map, hl]; omega
  have er : (G.reverse.map fun r => T.str (rowS r)).reverse = G.map fun r => T.str (rowS r) := by rw [← List.map_reverse, List.reverse_reverse]
  simp only [m_rows_in, s_rows_in, defM, startT, sSeq, sSet, sIf, sRet, sNil, eIf, bTest, eIsi, tyOf, isiB, eMt, tyT, mSplit, eVar, eK, eL, aLim, aCons, aNil, List.map_cons, List.map_nil, List.length_cons, List.length_nil, List.cons_append, List.nil_append, Nat.reduceAdd, Nat.reduceSub, List.replicate, List.getElem?_cons_zero, List.getElem?_cons_succ, List.set_cons_succ, List.set_cons_zero, beq_self_eq_true, Bool.true_or, if_true, es, ez, hz, sh, and_self, hm,
    TL.bOr, TL.bNot, eChain, eCall, fLen, seqOf, TL.listOf, hll, eOp, bIx, er0, el0, c1, c2, c3, c4, Bool.not_true, outer, a1, eRev, er]
  rfl
end
end K33
set_option Elab.async false
set_option linter.all false
set_option maxRecDepth 100000
set_option maxHeartbeats 400000
namespace K33
open PySem L2 TL
structure Mut (G : List (List Nat)) (W H : Nat) : Prop where
  lt : ∀ x y, cell G W H x y < 10
  n5 : ∀ x y, cell G W H x y ≠ 5
  mate : ∀ x y, cell G W H x y ≠ 0 → cell G W H (x + sx (cell G W H x y)) (y + sy (cell G W H x y)) + cell G W H x y = 10
section
variable {G : List (List Nat)} {W H : Nat}
theorem rowAt_nat (D : Dim G W H) {i : Nat} (hi : i < H) : rowAt G H (i : Int) = G.getD i [] := by
  unfold rowAt
  have : ((i : Int) % (H : Int)).toNat = i := by
    rw [Int.emod_eq_of_lt (by omega) (by omega)]
    omega
  rw [this]
theorem cell_nat (D : Dim G W H) {i j : Nat} (hi : i < H) (hj : j < W) : cell G W H (j : Int) (i : Int) = (G.getD i []).getD j 0 := by
  unfold cell
  rw [rowAt_nat D hi]
  have : ((j : Int) % (W : Int)).toNat = j := by
    rw [Int.emod_eq_of_lt (by omega) (by omega)]
    omega
  rw [this]
theorem getD_lt {l : List Nat} {j : Nat} (h : j < l.length) : l.getD j 0 = l[j] := by
  rw [List.getD_eq_getElem?_getD, List.getElem?_eq_getElem h]
  rfl
theorem enum_at {ts : List T} {i : Nat} (hi : i < (enumT ts).length) : ∃ h : i < ts.length, (enumT ts)[i] = .tup [.int (i : Nat), ts[i]] := by
  have hl : i < ts.length := by simpa [enumT] using hi
  exact ⟨hl, by simp [enumT]⟩
theorem enum_len (ts : List T) : (enumT ts).length = ts.length := by simp [enumT]
theorem dig_zero (d : Nat) : PyData.eqv (.str (dig d)) (.str "0") = decide (d = 0) := by
  have e : ("0" : Str) = dig 0 := by decide
  rw [e]
  simp only [PyData.eqv]
  rw [W.beq_decide]
  refine decide_eq_decide.mpr ⟨fun z => ?_, fun z => by rw [z]⟩
  have := congrArg (fun s : Str => s.cps.toList) z
  simp [dig] at this
  exact this
/-- nothing is wrong -/
theorem first_ok (D : Dim G W H) (M : Mut G W H) {o u : T} {h : VH} (ho : getI h o = some (2, [u, rowsT G])) : m_first_wrong [o] h = .ok .non h := by
  have h0 := D.h0
  have h1 := D.h1
  have inner : ∀ (i : Nat) (hi : i < H) (d e f : Option T), ∃ d' e' f', sFor (iEnumSM (aCons (eVar 2) aNil)) (mgTup 2 (mgsCons (mgName 3) (mgsCons (mgName 4) mgsNil))) (sIf (bTest (eOp bNe (eVar 4) (eK (.str "0")))) (sSeq (sSet 5 (eIxK kv_SHIFTS (eVar 4)))
  (sIf (bTest (eOp bNe (eOp bAdd (eCall fInt (aCons (eCall m_figure_at (aCons (eVar 0) (aCons (eOp bAdd (eVar 3) (eOp bIx (eVar 5) (eK (.int 0)))) (aCons (eOp bAdd (eVar 1) (eOp bIx (eVar 5) (eK (.int 1)))) aNil)))) aNil)) (eCall fInt (aCons (eVar 4) aNil))) (eK (.int 10)))) (sRet (eTup (aCons (eVar 3) (aCons (eVar 1) aNil)))) sNil)) sNil) [some o, some (.int (i : Nat)), some (.str (rowS (G.getD i []))), d, e, f] h = .nx [some o, some (.int (i : Nat)), some (.str (rowS (G.getD i []))), d', e', f'] h := by
    intro i hi d e f
    have hr : G.getD i [] ∈ G := by
      rw [List.getD_eq_getElem?_getD, List.getElem?_eq_getElem (by rw [D.len]; exact hi)]
      exact List.getElem_mem _
    have hlr := D.row _ hr
    obtain ⟨τ', h', q1, q2⟩ := sFor_inv (mi := iEnumSM (aCons (eVar 2) aNil)) (g := mgTup 2 (mgsCons (mgName 3) (mgsCons (mgName 4) mgsNil))) (body := (sIf (bTest (eOp bNe (eVar 4) (eK (.str "0")))) (sSeq (sSet 5 (eIxK kv_SHIFTS (eVar 4)))
  (sIf (bTest (eOp bNe (eOp bAdd (eCall fInt (aCons (eCall m_figure_at (aCons (eVar 0) (aCons (eOp bAdd (eVar 3) (eOp bIx (eVar 5) (eK (.int 0)))) (aCons (eOp bAdd (eVar 1) (eOp bIx (eVar 5) (eK (.int 1)))) aNil)))) aNil)) (eCall fInt (aCons (eVar 4) aNil))) (eK (.int 10)))) (sRet (eTup (aCons (eVar 3) (aCons (eVar 1) aNil)))) sNil)) sNil)) (τ := [some o, some (.int (i : Nat)), some (.str (rowS (G.getD i []))), d, e, f]) (h := h) (h1 := h)
      (rd := fun _ => some (enumT (signsT (rowS (G.getD i []))))) (ts := enumT (signsT (rowS (G.getD i [])))) (fun _ τ h' => h' = h ∧ ∃ d e f, τ = [some o, some (.int (i : Nat)), some (.str (rowS (G.getD i []))), d, e, f])
      (by simp [iEnumSM, aCons, aNil, eVar]) ⟨rfl, d, e, f, rfl⟩ (fun _ _ _ _ => rfl) (fun j hj τ h' I => by
        obtain ⟨rfl, d, e, f, rfl⟩ := I
        obtain ⟨hj2, ej⟩ := enum_at hj
        rw [ej]
        have hj3 : j < (G.getD i []).length := by rw [signs_row, List.length_map] at hj2; exact hj2
        have hjW : j < W := by rw [← hlr]; exact hj3
        have es : (signsT (rowS (G.getD i [])))[j] = .str (dig (cell G W H (j : Int) (i : Int))) := by
          rw [cell_nat D hi hjW]
          have e1 : (signsT (rowS (G.getD i [])))[j]? = some (.str (dig ((G.getD i []).getD j 0))) := by
            rw [signs_row, List.getElem?_map, List.getElem?_eq_getElem hj3]
            rw [getD_lt hj3]
            rfl
          rw [List.getElem?_eq_getElem hj2] at e1
          exact Option.some.inj e1
        rw [es]
        have c1 := M.lt (j : Int) (i : Int)
        have c2 := M.n5 (j : Int) (i : Int)
        have c3 := M.mate (j : Int) (i : Int)
        generalize hc : cell G W H (j : Int) (i : Int) = c at c1 c2 c3
        refine ⟨[some o, some (.int (i : Nat)), some (.str (rowS (G.getD i []))), some (.int (j : Nat)), some (.str (dig c)), f], h', ?_⟩
        have eg : mgTup 2 (mgsCons (mgName 3) (mgsCons (mgName 4) mgsNil)) (.tup [.int (j : Nat), .str (dig c)]) [some o, some (.int (i : Nat)), some (.str (rowS (G.getD i []))), d, e, f] h' = .ok [some o, some (.int (i : Nat)), some (.str (rowS (G.getD i []))), some (.int (j : Nat)), some (.str (dig c)), f] h' := by
          simp [mgTup, mgsCons, mgName, mgsNil]
        by_cases z : c = 0
        · refine ⟨[some o, some (.int (i : Nat)), some (.str (rowS (G.getD i []))), some (.int (j : Nat)), some (.str (dig c)), f], h', eg, .inl ?_, rfl, _, _, _, rfl⟩
          have ez : bNe (.str (dig c)) (.str "0") h' = .ok (.bl false) h' := by
            unfold bNe bEqG
            simp only [dat_str, dig_zero, z, decide_true, Bool.not_true]
          simp [sIf, bTest, eOp, eVar, eK, ez, sNil]
        · have c4 := c3 z
          have f1 := fig_ok D ho ((j : Int) + sx c) ((i : Int) + sy c)
          have l1 := M.lt ((j : Int) + sx c) ((i : Int) + sy c)
          have l2 := M.n5 ((j : Int) + sx c) ((i : Int) + sy c)
          generalize hm : cell G W H ((j : Int) + sx c) ((i : Int) + sy c) = m at c4 f1 l1 l2
          refine ⟨[some o, some (.int (i : Nat)), some (.str (rowS (G.getD i []))), some (.int (j : Nat)), some (.str (dig c)), some (.tup [.int (sx c), .int (sy c)])], h', eg, .inl ?_, rfl, _, _, _, rfl⟩
          have ez : bNe (.str (dig c)) (.str "0") h' = .ok (.bl true) h' := by
            unfold bNe bEqG
            simp only [dat_str, dig_zero, z, decide_false, Bool.not_false]
          have en : bNe (.int ((m : Int) + (c : Int))) (.int 10) h' = .ok (.bl false) h' := by
            unfold bNe bEqG
            have : (m : Int) + (c : Int) = 10 := by omega
            simp [dat_int, this, PyData.eqv]
          simp [sIf, bTest, eOp, eVar, eK, ez, sNil, sSeq, sSet, eIxK, sh_dig c c1 c2 z, eCall, aCons, aNil, bIx, atI, ixN, bAdd, f1, fInt_dig h' m l1 l2, fInt_dig h' c c1 c2, en])
    obtain ⟨rfl, d', e', f', rfl⟩ := q2
    exact ⟨d', e', f', q1⟩
  obtain ⟨τ', h', q1, q2⟩ := sFor_inv (mi := iEnumM (aCons (eFld 2 1 (eVar 0)) aNil)) (g := mgTup 2 (mgsCons (mgName 1) (mgsCons (mgName 2) mgsNil))) (body := (sFor (iEnumSM (aCons (eVar 2) aNil)) (mgTup 2 (mgsCons (mgName 3) (mgsCons (mgName 4) mgsNil))) (sIf (bTest (eOp bNe (eVar 4) (eK (.str "0")))) (sSeq (sSet 5 (eIxK kv_SHIFTS (eVar 4)))
  (sIf (bTest (eOp bNe (eOp bAdd (eCall fInt (aCons (eCall m_figure_at (aCons (eVar 0) (aCons (eOp bAdd (eVar 3) (eOp bIx (eVar 5) (eK (.int 0)))) (aCons (eOp bAdd (eVar 1) (eOp bIx (eVar 5) (eK (.int 1)))) aNil)))) aNil)) (eCall fInt (aCons (eVar 4) aNil))) (eK (.int 10)))) (sRet (eTup (aCons (eVar 3) (aCons (eVar 1) aNil)))) sNil)) sNil))) (τ := [some o, none, none, none, none, none]) (h := h) (h1 := h)
    (rd := fun h => (TL.listOf h (rowsT G)).map enumT) (ts := enumT (G.map fun r => .str (rowS r))) (fun _ τ h' => h' = h ∧ ∃ a b d e f, τ = [some o, a, b, d, e, f])
    (by simp [iEnumM, aCons, aNil, eFld, eVar, ho, rowsT, TL.listOf]) ⟨rfl, _, _, _, _, _, rfl⟩ (fun _ _ _ _ => rfl) (fun i hi τ h' I => by
      obtain ⟨rfl, a, b, d, e, f, rfl⟩ := I
      obtain ⟨hi2, ei⟩ := enum_at hi
      rw [ei]
      have hiG : i < G.length := by rw [List.length_map] at hi2; exact hi2
      have hiH : i < H := by rw [← D.len]; exact hiG
      obtain ⟨d', e', f', q⟩ := inner i hiH d e f
      have er : (G.map fun r => T.str (rowS r))[i] = .str (rowS (G.getD i [])) := by
        rw [List.getElem_map, List.getD_eq_getElem?_getD, List.getElem?_eq_getElem hiG]
        rfl
      rw [er]
      refine ⟨[some o, some (.int (i : Nat)), some (.str (rowS (G.getD i []))), d, e, f], h', _, h', ?_, .inl q, rfl, _, _, _, _, _, rfl⟩
      simp [mgTup, mgsCons, mgName, mgsNil])
  obtain ⟨rfl, a, b, d, e, f, rfl⟩ := q2
  have et : startT 6 [o] = [some o, none, none, none, none, none] := rfl
  simp only [m_first_wrong, s_first_wrong, defM, List.length_cons, List.length_nil, Nat.reduceAdd, if_true, et, sSeq, q1, sRet, eK]
theorem mut_digs (D : Dim G W H) (M : Mut G W H) : Digs G := by
  have key : ∀ r ∈ G, ∀ d ∈ r, ∃ x y, cell G W H x y = d := by
    intro r hr d hd
    obtain ⟨i, hi, rfl⟩ := List.getElem_of_mem hr
    obtain ⟨j, hj, rfl⟩ := List.getElem_of_mem hd
    have hiH : i < H := by rw [← D.len]; exact hi
    have hjW : j < W := by rw [← D.row _ hr]; exact hj
    refine ⟨(j : Int), (i : Int), ?_⟩
    rw [cell_nat D hiH hjW, List.getD_eq_getElem?_getD, List.getD_eq_getElem?_getD, List.getElem?_eq_getElem hi]
    simp only [Option.getD_some]
    rw [List.getElem?_eq_getElem hj]
    rfl
  refine ⟨fun r hr d hd => ?_, fun r hr d hd => ?_⟩ <;> obtain ⟨x, y, rfl⟩ := key r hr d hd
  · exact M.lt x y
  · exact M.n5 x y
/-- the pattern -/
def pat (G : List (List Nat)) : T := .obj 2 [.str (spell G), rowsT G]
theorem rowsT_low (G : List (List Nat)) (n : Nat) : (rowsT G).lowR n = true := by
  unfold rowsT
  simp only [T.lowR]
  induction G with
  | nil => rfl
  | cons r G ih => simp [lowRs, T.lowR, ih]
theorem make_ok (D : Dim G W H) (M : Mut G W H) {h : VH} (hl : h.all (VO.lowR h.length) = true) : cutM (makeM 2 m_Pattern___init__) [.str (spell G)] h = .ok (pat G) h := by
  have A := mut_digs D M
  have r1 := rows_ok D A (h ++ [.ins 2 []])
  have g0 : (h ++ [VO.ins 2 []])[h.length]? = some (.ins 2 []) := by simp
  have s1 : (h ++ [VO.ins 2 []]).set h.length (.ins 2 [.str (spell G)]) = h ++ [.ins 2 [.str (spell G)]] := by simp
  have g1 : (h ++ [VO.ins 2 [.str (spell G)]])[h.length]? = some (.ins 2 [.str (spell G)]) := by simp
  have s2 : (h ++ [VO.ins 2 [.str (spell G)]]).set h.length (.ins 2 [.str (spell G), rowsT G]) = h ++ [.ins 2 [.str (spell G), rowsT G]] := by simp
  have g2 : getI (h ++ [VO.ins 2 [.str (spell G), rowsT G]]) (.ref h.length) = some (2, [.str (spell G), rowsT G]) := by simp [getI]
  have f1 := first_ok D M g2
  have hm : m_Pattern___init__ [.ref h.length, .str (spell G)] (h ++ [.ins 2 []]) = .ok .non (h ++ [.ins 2 [.str (spell G), rowsT G]]) := by
    have ei : bIs (rowsT G) .non (h ++ [.ins 2 []]) = .ok (.bl false) (h ++ [.ins 2 []]) := rfl
    have ej : bIsn .non .non (h ++ [.ins 2 [.str (spell G), rowsT G]]) = .ok (.bl false) (h ++ [.ins 2 [.str (spell G), rowsT G]]) := rfl
    simp [m_Pattern___init__, s_Pattern___init__, defM, startT, sSeq, sSet, sIf, sNil, sBad, bTest, eOp, eK, eVar, eCall, aCons, aNil, r1, ei, ej, sAsg, eTup, mgTup, mgsCons, mgFld, mgsNil, g0, s1, g1, s2, f1]
  have ht : (h ++ [VO.ins 2 [.str (spell G), rowsT G]]).take h.length = h := by simp
  have fz : frz h.length (h ++ [.ins 2 [.str (spell G), rowsT G]]) 4 (.ref h.length) = some (pat G) := by
    have l1 : T.lowR h.length (.ref h.length) = false := by simp [T.lowR]
    have l2 : T.lowR h.length (.str (spell G)) = true := rfl
    have g3 : (h ++ [VO.ins 2 [.str (spell G), rowsT G]])[h.length]? = some (.ins 2 [.str (spell G), rowsT G]) := by simp
    have k1 : frz h.length (h ++ [.ins 2 [.str (spell G), rowsT G]]) 3 (.str (spell G)) = some (.str (spell G)) := by unfold frz; rw [if_pos l2]
    have k2 : frz h.length (h ++ [.ins 2 [.str (spell G), rowsT G]]) 3 (rowsT G) = some (rowsT G) := by unfold frz; rw [if_pos (rowsT_low G _)]
    unfold frz
    rw [l1]
    simp only [Bool.false_eq_true, if_false, g3]
    simp [k1, k2, pat]
  unfold cutM makeM
  rw [hm]
  simp only [ht, hl, fz, if_true]
end
end K33
set_option Elab.async false
set_option linter.all false
set_option maxRecDepth 100000
set_option maxHeartbeats 400000
namespace K33
open PySem L2 TL KG
/-- a way: its word, the figure ahead -/
structure Way (w : Str) (a : Nat) : Prop where
  at_ : kv_AHEAD.lookup w = some (.str (dig a))
  lt : a < 10
  n5 : a ≠ 5
  n0 : a ≠ 0
theorem dig_eqv (d a : Nat) : PyData.eqv (.str (dig d)) (.str (dig a)) = decide (d = a) := by
  simp only [PyData.eqv]
  rw [W.beq_decide]
  refine decide_eq_decide.mpr ⟨fun z => ?_, fun z => by rw [z]⟩
  have := congrArg (fun s : Str => s.cps.toList) z
  simp [dig] at this
  exact this
theorem sx_small (a : Nat) : -2 < sx a ∧ sx a < 2 := by unfold sx; split <;> decide
theorem sy_small (a : Nat) : -2 < sy a ∧ sy a < 2 := by unfold sy; split <;> decide
theorem cmul_r {i j : Int} (h : -1000 < j) (h2 : j < 1000) : cMul i j = true := by
  unfold cMul
  rw [Bool.or_eq_true, Bool.and_eq_true, Bool.and_eq_true]
  exact .inr ⟨decide_eq_true (by omega), decide_eq_true (by omega)⟩
section
variable {G : List (List Nat)} {W H : Nat}
/-- the k-th cell along -/
def al (G : List (List Nat)) (W H a : Nat) (x y : Int) (k : Nat) : Nat := cell G W H (x + k * sx a) (y + k * sy a)
def spots (G : List (List Nat)) (W H a : Nat) (x y : Int) : List Nat := (List.range' 0 (H * W)).filter fun k => decide (al G W H a x y k = a)
theorem enum_range (n : Nat) (g : Nat → T) : enumT ((List.range n).map g) = (List.range n).map fun k => .tup [.int (k : Nat), g k] := by
  apply List.ext_getElem
  · simp [enumT]
  · intro i h1 h2
    simp [enumT]
theorem cell_step {o : T} {w : Str} {x y p q : Int} {n : Int} {u0 d : Option T} {h : VH} {i : Int} (cx : cMul i p = true) (cy : cMul i q = true) {r : T} (f : m_figure_at [o, .int (x + i * p), .int (y + i * q)] h = .ok r h) :
  eCall m_figure_at (aCons (eVar 0) (aCons (eOp TL.bAdd (eVar 2) (eOp TL.bMul (eVar 7) (eOp TL.bIx (eVar 4) (eK (.int 0))))) (aCons (eOp TL.bAdd (eVar 3) (eOp TL.bMul (eVar 7) (eOp TL.bIx (eVar 4) (eK (.int 1))))) aNil))) [some o, some (.str w), some (.int x), some (.int y), some (.tup [.int p, .int q]), some (.int n), u0, some (.int i), d] h = .ok r h := by
  have i0 : atI [T.int p, T.int q] 0 = some (.int p) := rfl
  have i1 : atI [T.int p, T.int q] 1 = some (.int q) := rfl
  simp only [eCall, aCons, aNil, eOp, eK, eVar, List.getElem?_cons_succ, List.getElem?_cons_zero, TL.bAdd, TL.bMul, TL.bIx, i0, i1, cx, cy, if_true, f]
theorem round_ok (D : Dim G W H) {w : Str} {a : Nat} (Wy : Way w a) {o u : T} {h : VH} (ho : getI h o = some (2, [u, rowsT G])) (x y : Int) :
    m_round_from [o, .str w, .int x, .int y] h = .ok (.tup [.lst ((spots G W H a x y).map fun k => .int (k : Nat)), .int ((H * W : Nat) : Int)]) h := by
  have h0 := D.h0
  have h1 := D.h1
  have w0 := D.w0
  have w1 := D.w1
  have hn : H * W ≤ 144 := Nat.le_trans (Nat.mul_le_mul h1 w1) (by omega)
  obtain ⟨x1, x2⟩ := sx_small a
  obtain ⟨y1, y2⟩ := sy_small a
  have sh := sh_dig a Wy.lt Wy.n5 Wy.n0
  have er : (G.map fun r => T.str (rowS r)).length = H := by rw [List.length_map, D.len]
  obtain ⟨r0, er0, hr0⟩ : ∃ r0, atI (G.map fun r => T.str (rowS r)) 0 = some (.str (rowS r0)) ∧ r0 ∈ G := by
    rw [ix_nn (Int.le_refl _) (by rw [er]; omega), List.getElem?_map]
    have : (0 : Nat) < G.length := by rw [D.len]; exact h0
    refine ⟨G[0], ?_, List.getElem_mem this⟩
    show Option.map _ G[0]? = _
    rw [List.getElem?_eq_getElem this]
    rfl
  have el0 : (rowS r0).length = W := by rw [rowS_len, D.row r0 hr0]
  have cm : cMul (H : Int) (W : Int) = true := cmul_r (by omega) (by omega)
  have ei : ((H : Int) * (W : Int)) = ((H * W : Nat) : Int) := by simp
  have ho' := ho
  unfold rowsT at ho'
  have cells : ∀ c d, mLc (iRange1 (aCons (eVar 5) aNil)) [7] (mgName 7) bYes (eCall m_figure_at (aCons (eVar 0) (aCons (eOp TL.bAdd (eVar 2) (eOp TL.bMul (eVar 7) (eOp TL.bIx (eVar 4) (eK (.int 0))))) (aCons (eOp TL.bAdd (eVar 3) (eOp TL.bMul (eVar 7) (eOp TL.bIx (eVar 4) (eK (.int 1))))) aNil))))
      [some o, some (.str w), some (.int x), some (.int y), some (.tup [.int (sx a), .int (sy a)]), some (.int ((H * W : Nat) : Int)), none, c, d] h = .ok ((List.range (H * W)).map fun k => .str (dig (al G W H a x y k))) h := by
    intro c d
    have z := mLc_map (mi := iRange1 (aCons (eVar 5) aNil)) (ws := [7]) (g := mgName 7) (e := eCall m_figure_at (aCons (eVar 0) (aCons (eOp TL.bAdd (eVar 2) (eOp TL.bMul (eVar 7) (eOp TL.bIx (eVar 4) (eK (.int 0))))) (aCons (eOp TL.bAdd (eVar 3) (eOp TL.bMul (eVar 7) (eOp TL.bIx (eVar 4) (eK (.int 1))))) aNil))))
      (τ := [some o, some (.str w), some (.int x), some (.int y), some (.tup [.int (sx a), .int (sy a)]), some (.int ((H * W : Nat) : Int)), none, c, d]) (h := h) (rd := fun _ => some (rangeT 0 (H * W))) (ts := rangeT 0 (H * W))
      (by simp only [iRange1, aCons, aNil, eVar, List.getElem?_cons_succ, List.getElem?_cons_zero]; rw [if_pos ⟨by omega, by omega⟩, Int.toNat_natCast]) rfl (by rw [range_len]; omega)
      (fun t => match t with | .int k => .str (dig (al G W H a x y k.toNat)) | t => t) (fun t ht => by
        obtain ⟨i, hi, rfl⟩ := List.getElem_of_mem ht
        obtain ⟨hi2, ei⟩ := range_at hi
        rw [ei, Int.zero_add]
        have cx : cMul (i : Int) (sx a) = true := cmul_r (by omega) (by omega)
        have cy : cMul (i : Int) (sy a) = true := cmul_r (by omega) (by omega)
        exact ⟨[some o, some (.str w), some (.int x), some (.int y), some (.tup [.int (sx a), .int (sy a)]), some (.int ((H * W : Nat) : Int)), none, some (.int (i : Nat)), d], rfl, cell_step cx cy (fig_ok D ho (x + i * sx a) (y + i * sy a))⟩)
    rw [z]
    unfold rangeT
    rw [List.map_map]
    refine congrArg (fun l => Res.ok l h) ?_
    refine List.map_congr_left fun k _ => ?_
    simp [Function.comp]
  have ss : ∀ c d, mLc (iEnumM (aCons (eVar 6) aNil)) [7, 8] (mgTup 2 (mgsCons (mgName 7) (mgsCons (mgName 8) mgsNil))) (bTest (eOp bEq (eVar 8) (eIxK kv_AHEAD (eVar 1)))) (eVar 7)
      [some o, some (.str w), some (.int x), some (.int y), some (.tup [.int (sx a), .int (sy a)]), some (.int ((H * W : Nat) : Int)), some (.lst ((List.range (H * W)).map fun k => .str (dig (al G W H a x y k)))), c, d] h = .ok ((spots G W H a x y).map fun k => .int (k : Nat)) h := by
    intro c d
    have z := mLc_pure (mi := iEnumM (aCons (eVar 6) aNil)) (ws := [7, 8]) (g := mgTup 2 (mgsCons (mgName 7) (mgsCons (mgName 8) mgsNil))) (c := bTest (eOp bEq (eVar 8) (eIxK kv_AHEAD (eVar 1)))) (e := eVar 7)
      (τ := [some o, some (.str w), some (.int x), some (.int y), some (.tup [.int (sx a), .int (sy a)]), some (.int ((H * W : Nat) : Int)), some (.lst ((List.range (H * W)).map fun k => .str (dig (al G W H a x y k)))), c, d]) (h := h)
      (rd := fun h => (TL.listOf h (.lst ((List.range (H * W)).map fun k => .str (dig (al G W H a x y k))))).map enumT) (ts := enumT ((List.range (H * W)).map fun k => .str (dig (al G W H a x y k))))
      (by simp [iEnumM, aCons, aNil, eVar, TL.listOf]) (by simp [TL.listOf]) (by rw [enum_len, List.length_map, List.length_range]; omega)
      (fun t => match t with | .tup [_, .str s] => PyData.eqv (.str s) (.str (dig a)) | _ => false) (fun t => match t with | .tup [i, _] => i | t => t) (fun t ht => by
        rw [enum_range] at ht
        obtain ⟨k, hk, rfl⟩ := List.mem_map.mp ht
        refine ⟨[some o, some (.str w), some (.int x), some (.int y), some (.tup [.int (sx a), .int (sy a)]), some (.int ((H * W : Nat) : Int)), some (.lst ((List.range (H * W)).map fun k => .str (dig (al G W H a x y k)))), some (.int (k : Nat)), some (.str (dig (al G W H a x y k)))], ?_, ?_, fun _ => ?_⟩
        · simp [mgTup, mgsCons, mgName, mgsNil, wipeT]
        · simp [bTest, eOp, eVar, eIxK, Wy.at_, bEq, bEqG, dat_str]
        · simp [eVar])
    rw [z, enum_range, List.filter_map, List.map_map]
    unfold spots
    rw [← List.range_eq_range']
    refine congrArg (fun l => Res.ok l h) ?_
    have : ((fun t => match t with | T.tup [_, .str s] => PyData.eqv (.str s) (.str (dig a)) | _ => false) ∘ fun k => T.tup [T.int (k : Nat), T.str (dig (al G W H a x y k))]) = fun k => decide (al G W H a x y k = a) := funext fun k => dig_eqv _ _
    rw [this]
    rfl
  have a1 : sAsg (eTup (aCons (eIxK kv_SHIFTS (eIxK kv_AHEAD (eVar 1))) (aCons (eOp TL.bMul (eCall fLen (aCons (eFld 2 1 (eVar 0)) aNil)) (eCall fLen (aCons (eOp TL.bIx (eFld 2 1 (eVar 0)) (eK (.int 0))) aNil))) aNil))) (mgTup 2 (mgsCons (mgName 4) (mgsCons (mgName 5) mgsNil)))
      [some o, some (.str w), some (.int x), some (.int y), none, none, none, none, none] h = .nx [some o, some (.str w), some (.int x), some (.int y), some (.tup [.int (sx a), .int (sy a)]), some (.int ((H * W : Nat) : Int)), none, none, none] h := by
    have b1 : eOp TL.bMul (eCall fLen (aCons (eFld 2 1 (eVar 0)) aNil)) (eCall fLen (aCons (eOp TL.bIx (eFld 2 1 (eVar 0)) (eK (.int 0))) aNil)) [some o, some (.str w), some (.int x), some (.int y), none, none, none, none, none] h = .ok (.int ((H * W : Nat) : Int)) h := by
      simp only [eOp, eCall, aCons, aNil, eFld, eVar, eK, List.getElem?_cons_succ, List.getElem?_cons_zero, ho', if_true, fLen, seqOf, TL.listOf, er, TL.bIx, er0, el0, TL.bMul, cm, ei]
    simp only [sAsg, eTup, aCons, aNil, eIxK, b1, eVar, List.getElem?_cons_succ, List.getElem?_cons_zero, Wy.at_, sh, mgTup, mgsCons, mgsNil, mgName, List.length_cons, List.length_nil, Nat.reduceAdd, Nat.reduceLeDiff, List.set_cons_succ, List.set_cons_zero, if_true]
  have t0 : startT 9 [o, .str w, .int x, .int y] = [some o, some (.str w), some (.int x), some (.int y), none, none, none, none, none] := rfl
  simp only [m_round_from, s_round_from, defM, List.length_cons, List.length_nil, Nat.reduceAdd, if_true, t0, sSeq, a1, sSet, eL, cells, List.set_cons_succ, List.set_cons_zero, sRet, eTup, aCons, aNil, ss, eVar, List.getElem?_cons_succ, List.getElem?_cons_zero, Nat.reduceLeDiff]
end
end K33
set_option Elab.async false
set_option linter.all false
set_option maxRecDepth 100000
set_option maxHeartbeats 400000
namespace K33
open PySem L2 TL KG
section
variable {G : List (List Nat)} {W H : Nat}
theorem cell_congr {x x' y y' : Int} (hx : x % W = x' % W) (hy : y % H = y' % H) : cell G W H x y = cell G W H x' y' := by
  unfold cell rowAt
  rw [hx, hy]
theorem al_per (a : Nat) (x y : Int) (k : Nat) : al G W H a x y (k + H * W) = al G W H a x y k := by
  unfold al
  apply cell_congr
  · have : x + ((k + H * W : Nat) : Int) * sx a = x + k * sx a + W * (H * sx a) := by
      rw [Int.natCast_add, Int.natCast_mul, Int.add_mul, Int.mul_comm (H : Int) W, Int.mul_assoc]; omega
    rw [this, Int.add_mul_emod_self_left]
  · have : y + ((k + H * W : Nat) : Int) * sy a = y + k * sy a + H * (W * sy a) := by
      rw [Int.natCast_add, Int.natCast_mul, Int.add_mul, Int.mul_assoc]; omega
    rw [this, Int.add_mul_emod_self_left]
/-- where the figure stands -/
def St (G : List (List Nat)) (W H a : Nat) (x y : Int) : Prop := cell G W H x y = a
theorem gaps_ok {a : Nat} {x y : Int} {l0 : Nat} {r : List Nat} (hs : spots G W H a x y = l0 :: r) : ∀ q ∈ nexts (spots G W H a x y) (l0 + H * W), q.1 < q.2 ∧ Gap (St G W H a) (sx a) (sy a) (x + q.1 * sx a) (y + q.1 * sy a) (q.2 - q.1) := by
  have hh := head_low (P := fun k => decide (al G W H a x y k = a)) (H * W) 0 l0 r hs
  obtain ⟨_, h1, h2, h3⟩ := hh
  have he : decide (al G W H a x y (l0 + H * W) = a) = true := by rw [al_per]; exact h2
  rintro ⟨u, v⟩ hq
  obtain ⟨k1, k2, k3, k4⟩ := nexts_ok (P := fun k => decide (al G W H a x y k = a)) (l0 + H * W) he (H * W) 0 (by omega) (fun j j1 j2 => by
    have : j = (j - H * W) + H * W := by omega
    rw [this, al_per]
    exact h3 _ (Nat.zero_le _) (by omega)) u v hq
  have e : ∀ (s z : Int) (j : Nat), z + u * s + j * s = z + ((u + j : Nat) : Int) * s := fun s z j => by rw [Int.natCast_add, Int.add_mul]; omega
  have k2' : al G W H a x y u = a := of_decide_eq_true k2
  have k3' : al G W H a x y v = a := of_decide_eq_true k3
  refine ⟨k1, Nat.sub_pos_of_lt k1, k2', ?_, fun j j0 j1 => ?_⟩
  · show St G W H a (x + u * sx a + ((v - u : Nat) : Int) * sx a) (y + u * sy a + ((v - u : Nat) : Int) * sy a)
    rw [e, e]
    have : u + (v - u) = v := by omega
    rw [this]
    exact k3'
  · show ¬ St G W H a (x + u * sx a + (j : Int) * sx a) (y + u * sy a + (j : Int) * sy a)
    rw [e, e]
    have j2 : j < v - u := j1
    have k5 : ¬ al G W H a x y (u + j) = a := of_decide_eq_false (k4 (u + j) (by omega) (by omega))
    exact k5
/-- the gaps, as numbers -/
def gaps (G : List (List Nat)) (W H a : Nat) (x y : Int) (l0 : Nat) : List Int := (nexts (spots G W H a x y) (l0 + H * W)).map fun q => (q.2 : Int) - (q.1 : Int)
theorem dat_ints (h : VH) (k : Nat) (l : List Nat) : T.dat h (k + 1) (.lst (l.map fun k => .int (k : Nat))) = some (.list (l.map fun k => .int (k : Nat))) := by
  rw [dat_lst, List.mapM_map]
  have : l.mapM (fun a => T.dat h k (.int (a : Nat))) = some (l.map fun k => PyData.int (k : Nat)) := mapM_some fun a _ => dat_int
  rw [show (T.dat h k ∘ fun k : Nat => T.int (k : Nat)) = fun a => T.dat h k (.int (a : Nat)) from rfl, this]
  rfl
abbrev gapsE : MA := mLc (iZipM (aCons (eVar 5) (aCons (eL (aLim (aStar (eSl (eVar 5) (oSome (eK (.int 1))) oNo) (aCons (eOp TL.bAdd (eOp TL.bIx (eVar 5) (eK (.int 0))) (eVar 6)) aNil)))) aNil))) [8, 9] (mgTup 2 (mgsCons (mgName 8) (mgsCons (mgName 9) mgsNil))) bYes (eOp TL.bSub (eVar 9) (eVar 8))
theorem zip_pairs (l : List Nat) (e : Nat) : zipT (l.map fun k => T.int (k : Nat)) ((l.map fun k => T.int (k : Nat)).drop 1 ++ [T.int ((e : Nat) : Int)]) = (nexts l e).map fun q => T.tup [T.int (q.1 : Nat), T.int (q.2 : Nat)] := by
  rw [← nexts_zip]
  unfold zipT
  rw [← List.map_drop]
  have : [T.int ((e : Nat) : Int)] = [e].map fun k => T.int (k : Nat) := rfl
  rw [this, ← List.map_append, List.zipWith_map, List.zip, List.map_zipWith]
theorem gaps_run {a : Nat} {x y : Int} {l0 : Nat} {r : List Nat} (hs : spots G W H a x y = l0 :: r) (hz : (spots G W H a x y).length ≤ 144) (c0 c1 c2 c3 c4 c7 c8 c9 : Option T) (h : VH) :
    gapsE [c0, c1, c2, c3, c4, some (.lst ((spots G W H a x y).map fun k => .int (k : Nat))), some (.int ((H * W : Nat) : Int)), c7, c8, c9] h = .ok ((gaps G W H a x y l0).map T.int) h := by
  have i0 : atI ((spots G W H a x y).map fun k => T.int (k : Nat)) 0 = some (.int (l0 : Nat)) := by
    rw [hs, ix_nn (Int.le_refl _) (by rw [List.length_map, List.length_cons]; omega)]
    rfl
  have ee : ((l0 : Nat) : Int) + ((H * W : Nat) : Int) = ((l0 + H * W : Nat) : Int) := by rw [Int.natCast_add]
  have zp := zip_pairs (spots G W H a x y) (l0 + H * W)
  have hl : (nexts (spots G W H a x y) (l0 + H * W)).length ≤ 16777216 := by
    rw [← nexts_zip]
    simp only [List.length_zip]
    omega
  have ea : aCons (eVar 5) (aCons (eL (aLim (aStar (eSl (eVar 5) (oSome (eK (.int 1))) oNo) (aCons (eOp TL.bAdd (eOp TL.bIx (eVar 5) (eK (.int 0))) (eVar 6)) aNil)))) aNil) [c0, c1, c2, c3, c4, some (.lst ((spots G W H a x y).map fun k => .int (k : Nat))), some (.int ((H * W : Nat) : Int)), c7, c8, c9] h =
      .ok [.lst ((spots G W H a x y).map fun k => .int (k : Nat)), T.lst (((spots G W H a x y).map fun k => T.int (k : Nat)).drop 1 ++ [T.int ((l0 + H * W : Nat) : Int)])] h := by
    have q : (((spots G W H a x y).map fun k => T.int (k : Nat)).drop 1 ++ [T.int ((l0 + H * W : Nat) : Int)]).length ≤ 16777216 := by
      rw [List.length_append, List.length_drop, List.length_map]; simp only [List.length_singleton]; omega
    simp only [aCons, aNil, eL, aLim, aStar, eSl, oSome, oNo, eOp, eVar, eK, List.getElem?_cons_succ, List.getElem?_cons_zero, bSl, TL.listOf, cut1, seqOf, TL.bIx, i0, TL.bAdd, ee, q, if_true]
  have z := mLc_map (mi := iZipM (aCons (eVar 5) (aCons (eL (aLim (aStar (eSl (eVar 5) (oSome (eK (.int 1))) oNo) (aCons (eOp TL.bAdd (eOp TL.bIx (eVar 5) (eK (.int 0))) (eVar 6)) aNil)))) aNil))) (ws := [8, 9]) (g := mgTup 2 (mgsCons (mgName 8) (mgsCons (mgName 9) mgsNil))) (e := eOp TL.bSub (eVar 9) (eVar 8))
    (τ := [c0, c1, c2, c3, c4, some (.lst ((spots G W H a x y).map fun k => .int (k : Nat))), some (.int ((H * W : Nat) : Int)), c7, c8, c9]) (h := h)
    (rd := fun h => match TL.listOf h (.lst ((spots G W H a x y).map fun k => .int (k : Nat))), TL.listOf h (T.lst (((spots G W H a x y).map fun k => T.int (k : Nat)).drop 1 ++ [T.int ((l0 + H * W : Nat) : Int)])) with | some ts, some us => some (zipT ts us) | _, _ => none)
    (ts := (nexts (spots G W H a x y) (l0 + H * W)).map fun q => T.tup [T.int (q.1 : Nat), T.int (q.2 : Nat)])
    (by unfold iZipM; rw [ea]; simp [TL.listOf]) (by simp only [TL.listOf]; rw [zp]) (by rw [List.length_map]; exact hl)
    (fun t => match t with | .tup [.int u, .int v] => T.int (v - u) | t => t) (fun t ht => by
      obtain ⟨q, hq, rfl⟩ := List.mem_map.mp ht
      refine ⟨[c0, c1, c2, c3, c4, some (.lst ((spots G W H a x y).map fun k => .int (k : Nat))), some (.int ((H * W : Nat) : Int)), c7, some (.int (q.1 : Nat)), some (.int (q.2 : Nat))], ?_, ?_⟩
      · simp only [mgTup, mgsCons, mgName, mgsNil, wipeT, List.length_cons, List.length_nil, Nat.reduceAdd, if_true, List.set_cons_succ, List.set_cons_zero]
      · simp only [eOp, eVar, List.getElem?_cons_succ, List.getElem?_cons_zero, TL.bSub, bI0])
  refine z.trans ?_
  unfold gaps
  rw [List.map_map, List.map_map]
  rfl
abbrev bodyE : MS := (sSeq (sAsg (eCall m_round_from (aCons (eVar 0) (aCons (eVar 1) (aCons (eVar 4) (aCons (eVar 3) aNil))))) (mgTup 2 (mgsCons (mgName 5) (mgsCons (mgName 6) mgsNil))))
  (sSeq (sIf (bTest (eOp TL.bEq (eVar 5) (eL (aLim aNil)))) (sRet (eK .non)) sNil)
  (sSeq (sSet 7 (eL gapsE))
  (sSet 2 (eCall fMax (aCons (eL (aLim (aCons (eVar 2) (aStar (eVar 7) aNil)))) aNil))))))
theorem eqv_nil (l : List Nat) : PyData.eqv (.list (l.map fun k => .int (k : Nat))) (.list []) = decide (l = []) := by
  cases l <;> simp [PyData.eqv, PyData.eqvAll]
theorem turn_ok (D : Dim G W H) {w : Str} {a : Nat} (Wy : Way w a) {o u : T} {h : VH} (ho : getI h o = some (2, [u, rowsT G])) (x y b : Int) (c5 c6 c7 c8 c9 : Option T) :
    (spots G W H a x y = [] ∧ bodyE [some o, some (.str w), some (.int b), some (.int y), some (.int x), c5, c6, c7, c8, c9] h = .rt .non h) ∨
    ∃ l0 r, spots G W H a x y = l0 :: r ∧ ∃ d5 d6 d7, bodyE [some o, some (.str w), some (.int b), some (.int y), some (.int x), c5, c6, c7, c8, c9] h = .nx [some o, some (.str w), some (.int ((gaps G W H a x y l0).foldl max b)), some (.int y), some (.int x), d5, d6, d7, c8, c9] h := by
  have ro := round_ok D Wy ho x y
  have hz : (spots G W H a x y).length ≤ 144 := by
    unfold spots
    refine Nat.le_trans (List.length_filter_le _ _) ?_
    rw [List.length_range']
    exact Nat.le_trans (Nat.mul_le_mul D.h1 D.w1) (by omega)
  have s1 : sAsg (eCall m_round_from (aCons (eVar 0) (aCons (eVar 1) (aCons (eVar 4) (aCons (eVar 3) aNil))))) (mgTup 2 (mgsCons (mgName 5) (mgsCons (mgName 6) mgsNil))) [some o, some (.str w), some (.int b), some (.int y), some (.int x), c5, c6, c7, c8, c9] h =
      .nx [some o, some (.str w), some (.int b), some (.int y), some (.int x), some (.lst ((spots G W H a x y).map fun k => .int (k : Nat))), some (.int ((H * W : Nat) : Int)), c7, c8, c9] h := by
    simp only [sAsg, eCall, aCons, aNil, eVar, List.getElem?_cons_succ, List.getElem?_cons_zero, ro, mgTup, mgsCons, mgName, mgsNil, List.length_cons, List.length_nil, Nat.reduceAdd, if_true, List.set_cons_succ, List.set_cons_zero]
  have d1 := dat_ints h 9 (spots G W H a x y)
  have d2 : T.dat h 10 (.lst []) = some (.list []) := rfl
  cases hs : spots G W H a x y with
  | nil =>
    refine .inl ⟨rfl, ?_⟩
    have eb : TL.bEq (.lst ((spots G W H a x y).map fun k => .int (k : Nat))) (.lst []) h = .ok (.bl true) h := by
      unfold TL.bEq bEqG
      rw [d1, d2]
      simp only [eqv_nil, hs, decide_true]
    simp only [bodyE, sSeq, s1, sIf, bTest, eOp, eVar, eL, aLim, aNil, List.getElem?_cons_succ, List.getElem?_cons_zero, List.length_nil, Nat.zero_le, if_true, eb, sRet, eK]
  | cons l0 r =>
    refine .inr ⟨l0, r, rfl, some (.lst ((spots G W H a x y).map fun k => .int (k : Nat))), some (.int ((H * W : Nat) : Int)), some (.lst ((gaps G W H a x y l0).map T.int)), ?_⟩
    have eb : TL.bEq (.lst ((spots G W H a x y).map fun k => .int (k : Nat))) (.lst []) h = .ok (.bl false) h := by
      unfold TL.bEq bEqG
      rw [d1, d2]
      have ne : spots G W H a x y ≠ [] := by rw [hs]; simp
      simp only [eqv_nil, ne, decide_false]
    have g := gaps_run hs hz (some o) (some (.str w)) (some (.int b)) (some (.int y)) (some (.int x)) c7 c8 c9 h
    have hm : fMax [.lst (.int b :: (gaps G W H a x y l0).map T.int)] h = .ok (.int ((gaps G W H a x y l0).foldl max b)) h := by
      have e : intsOf (.int b :: (gaps G W H a x y l0).map T.int) = some (b :: gaps G W H a x y l0) := by
        show (intsOf _).map _ = _
        rw [intsOf_map]
        rfl
      simp only [fMax, fInts, TL.listOf, e, maxI]
    have hl : (T.int b :: (gaps G W H a x y l0).map T.int).length ≤ 16777216 := by
      rw [List.length_cons, List.length_map]
      unfold gaps
      rw [List.length_map, ← nexts_zip]
      simp only [List.length_zip]
      omega
    have s3 : sSet 7 (eL gapsE) [some o, some (.str w), some (.int b), some (.int y), some (.int x), some (.lst ((spots G W H a x y).map fun k => .int (k : Nat))), some (.int ((H * W : Nat) : Int)), c7, c8, c9] h = .nx [some o, some (.str w), some (.int b), some (.int y), some (.int x), some (.lst ((spots G W H a x y).map fun k => .int (k : Nat))), some (.int ((H * W : Nat) : Int)), some (.lst ((gaps G W H a x y l0).map T.int)), c8, c9] h := by
      unfold sSet eL
      rw [g]
      rfl
    have s2 : sIf (bTest (eOp TL.bEq (eVar 5) (eL (aLim aNil)))) (sRet (eK .non)) sNil [some o, some (.str w), some (.int b), some (.int y), some (.int x), some (.lst ((spots G W H a x y).map fun k => .int (k : Nat))), some (.int ((H * W : Nat) : Int)), c7, c8, c9] h = .nx [some o, some (.str w), some (.int b), some (.int y), some (.int x), some (.lst ((spots G W H a x y).map fun k => .int (k : Nat))), some (.int ((H * W : Nat) : Int)), c7, c8, c9] h := by
      simp only [sIf, bTest, eOp, eVar, eL, aLim, aNil, List.getElem?_cons_succ, List.getElem?_cons_zero, List.length_nil, Nat.zero_le, if_true, eb, sNil]
    have s4 : sSet 2 (eCall fMax (aCons (eL (aLim (aCons (eVar 2) (aStar (eVar 7) aNil)))) aNil)) [some o, some (.str w), some (.int b), some (.int y), some (.int x), some (.lst ((spots G W H a x y).map fun k => .int (k : Nat))), some (.int ((H * W : Nat) : Int)), some (.lst ((gaps G W H a x y l0).map T.int)), c8, c9] h =
        .nx [some o, some (.str w), some (.int ((gaps G W H a x y l0).foldl max b)), some (.int y), some (.int x), some (.lst ((spots G W H a x y).map fun k => .int (k : Nat))), some (.int ((H * W : Nat) : Int)), some (.lst ((gaps G W H a x y l0).map T.int)), c8, c9] h := by
      simp only [sSet, eCall, aCons, aNil, aStar, eL, aLim, eVar, seqOf, TL.listOf, List.append_nil, List.getElem?_cons_succ, List.getElem?_cons_zero, hl, if_true, hm, List.set_cons_succ, List.set_cons_zero]
    unfold bodyE sSeq
    rw [s1]
    simp only []
    rw [s2]
    simp only []
    rw [s3]
    exact s4
end
end K33
set_option Elab.async false
set_option linter.all false
set_option maxRecDepth 100000
set_option maxHeartbeats 400000
namespace K33
open PySem L2 TL KG
def optT : Option Nat → T
  | none => .non
  | some M => .int (M : Nat)
section
variable {G : List (List Nat)} {W H : Nat}
theorem Gap.uniq {S : Int → Int → Prop} {dx dy x y : Int} {m m' : Nat} (h : Gap S dx dy x y m) (h' : Gap S dx dy x y m') : m = m' := by
  obtain ⟨a0, _, a2, a3⟩ := h
  obtain ⟨b0, _, b2, b3⟩ := h'
  rcases Nat.lt_trichotomy m m' with q | q | q
  · exact (b3 m a0 q a2).elim
  · exact q
  · exact (a3 m' b0 q b2).elim
theorem st_mod (a : Nat) (x y s t : Int) : St G W H a (x % W + s) (y % H + t) ↔ St G W H a (x + s) (y + t) := by
  unfold St
  rw [cell_congr (x := x % W + s) (x' := x + s) (y := y % H + t) (y' := y + t) (by rw [Int.emod_add_emod]) (by rw [Int.emod_add_emod])]
theorem gap_mod {a : Nat} {x y dx dy : Int} {m : Nat} (g : Gap (St G W H a) dx dy x y m) : Gap (St G W H a) dx dy (x % W) (y % H) m := by
  obtain ⟨h0, h1, h2, h3⟩ := g
  refine ⟨h0, ?_, (st_mod a x y _ _).mpr h2, fun j j0 j1 z => h3 j j0 j1 ((st_mod a x y _ _).mp z)⟩
  have := (st_mod (G := G) (W := W) (H := H) a x y 0 0)
  simp only [Int.add_zero] at this
  exact this.mpr h1
/-- what the largest gap is like so far -/
def Good (G : List (List Nat)) (W H a : Nat) (b : Int) (done : Int → Int → Prop) : Prop :=
  (∃ n : Nat, b = n ∧ (n = 0 ∨ ∃ x y, Gap (St G W H a) (sx a) (sy a) x y n)) ∧ ∀ x y, done x y → spots G W H a x y ≠ [] ∧ ∀ m, Gap (St G W H a) (sx a) (sy a) x y m → (m : Int) ≤ b
theorem Good.turn {a : Nat} {b : Int} {done : Int → Int → Prop} (hg : Good G W H a b done) {x y : Int} {l0 : Nat} {r : List Nat} (hs : spots G W H a x y = l0 :: r) :
    Good G W H a ((gaps G W H a x y l0).foldl max b) fun x' y' => done x' y' ∨ (x' = x ∧ y' = y) := by
  obtain ⟨⟨n, rfl, hn⟩, hd⟩ := hg
  obtain ⟨f1, f2⟩ := foldl_max_spec (gaps G W H a x y l0) (n : Int)
  have go := gaps_ok hs
  refine ⟨?_, fun x' y' h => ?_⟩
  · rcases List.mem_cons.mp f2 with e | e
    · exact ⟨n, e, hn⟩
    · obtain ⟨q, hq, eq⟩ := List.mem_map.mp e
      obtain ⟨g1, g2⟩ := go q hq
      refine ⟨q.2 - q.1, ?_, .inr ⟨_, _, g2⟩⟩
      rw [← eq]
      omega
  · rcases h with h | ⟨rfl, rfl⟩
    · obtain ⟨a1, a2⟩ := hd x' y' h
      exact ⟨a1, fun m hm => Int.le_trans (a2 m hm) (f1 _ List.mem_cons_self)⟩
    · refine ⟨by rw [hs]; simp, fun m hm => ?_⟩
      have hh := head_low (P := fun k => decide (al G W H a x' y' k = a)) (H * W) 0 l0 r hs
      have h00 : al G W H a x' y' 0 = a := by
        have := hm.2.1
        unfold al
        simp only [Int.natCast_zero, Int.zero_mul, Int.add_zero]
        exact this
      have e0 : l0 = 0 := by
        by_cases z : l0 = 0
        · exact z
        · have := hh.2.2.2 0 (Nat.le_refl _) (by omega)
          simp [h00] at this
      subst e0
      obtain ⟨v, hv⟩ := nexts_head (e := 0 + H * W) hs
      obtain ⟨g1, g2⟩ := go _ hv
      simp only [Int.natCast_zero, Int.zero_mul, Int.add_zero, Nat.sub_zero] at g2
      have em := Gap.uniq hm g2
      have hin : ((v : Int) - (0 : Nat)) ∈ gaps G W H a x' y' 0 := List.mem_map.mpr ⟨_, hv, rfl⟩
      have := f1 _ (List.mem_cons_of_mem _ hin)
      rw [em]
      simpa using this
theorem good_end (D : Dim G W H) {a : Nat} {b : Int} {done : Int → Int → Prop} (hg : Good G W H a b done) (all : ∀ x y, done (x % W) (y % H)) : ∃ n : Nat, b = n ∧ IsL (St G W H a) (sx a) (sy a) (some n) := by
  obtain ⟨⟨n, rfl, hn⟩, hd⟩ := hg
  refine ⟨n, rfl, fun x y => ?_, ?_, fun x y m hm => ?_⟩
  · obtain ⟨ne, _⟩ := hd _ _ (all x y)
    cases hs : spots G W H a (x % W) (y % H) with
    | nil => exact (ne hs).elim
    | cons l0 r =>
      obtain ⟨_, _, h2, _⟩ := head_low (P := fun k => decide (al G W H a (x % W) (y % H) k = a)) (H * W) 0 l0 r hs
      have h2' : al G W H a (x % W) (y % H) l0 = a := of_decide_eq_true h2
      exact ⟨(l0 : Nat), (st_mod a x y _ _).mp h2'⟩
  · rcases hn with rfl | hn
    · exfalso
      obtain ⟨ne, _⟩ := hd _ _ (all 0 0)
      cases hs : spots G W H a (0 % W) (0 % H) with
      | nil => exact (ne hs).elim
      | cons l0 r =>
        obtain ⟨v, hv⟩ := nexts_head (e := l0 + H * W) hs
        obtain ⟨g1, g2⟩ := gaps_ok hs _ hv
        have := (hd _ _ (all _ _)).2 _ (gap_mod g2)
        have g0 := g2.1
        simp at this
        simp at g0
        omega
    · exact hn
  · have := (hd _ _ (all x y)).2 m (gap_mod hm)
    omega
theorem none_end {a : Nat} {x y : Int} (D : Dim G W H) (hs : spots G W H a x y = []) : IsL (St G W H a) (sx a) (sy a) none := by
  refine ⟨x, y, fun k hk => ?_⟩
  have hp : 0 < H * W := Nat.mul_pos D.h0 D.w0
  have hk0 := Int.emod_nonneg k (b := ((H * W : Nat) : Int)) (by omega)
  have hk1 := Int.emod_lt_of_pos k (b := ((H * W : Nat) : Int)) (by omega)
  have ek := Int.emod_add_mul_ediv k ((H * W : Nat) : Int)
  have := none_low (P := fun k => decide (al G W H a x y k = a)) (s := 0) (m := H * W) hs (j := (k % ((H * W : Nat) : Int)).toNat) (Nat.zero_le _) (by omega)
  have h2 : al G W H a x y (k % ((H * W : Nat) : Int)).toNat = a := by
    unfold al
    rw [Int.toNat_of_nonneg hk0]
    refine Eq.trans (cell_congr ?_ ?_) hk
    · generalize hq : k / ((H * W : Nat) : Int) = q at ek
      generalize hr : k % ((H * W : Nat) : Int) = rr at ek
      rw [← ek]
      have : x + (rr + ((H * W : Nat) : Int) * q) * sx a = x + rr * sx a + W * (H * q * sx a) := by
        rw [Int.natCast_mul, Int.add_mul, Int.mul_comm (H : Int) W]
        simp only [Int.mul_assoc]
        omega
      rw [this, Int.add_mul_emod_self_left]
    · generalize hq : k / ((H * W : Nat) : Int) = q at ek
      generalize hr : k % ((H * W : Nat) : Int) = rr at ek
      rw [← ek]
      have : y + (rr + ((H * W : Nat) : Int) * q) * sy a = y + rr * sy a + H * (W * q * sy a) := by
        rw [Int.natCast_mul, Int.add_mul]
        simp only [Int.mul_assoc]
        omega
      rw [this, Int.add_mul_emod_self_left]
  simp only [h2, decide_true] at this
  cases this
def dn (W i j : Nat) (x y : Int) : Prop := ∃ i' j' : Nat, x = j' ∧ y = i' ∧ j' < W ∧ (i' < i ∨ (i' = i ∧ j' < j))
theorem Good.le {a : Nat} {b : Int} {d d' : Int → Int → Prop} (hg : Good G W H a b d) (h : ∀ x y, d' x y → d x y) : Good G W H a b d' := ⟨hg.1, fun x y z => hg.2 x y (h x y z)⟩
theorem along_ok (D : Dim G W H) {w : Str} {a : Nat} (Wy : Way w a) {o u : T} {h : VH} (ho : getI h o = some (2, [u, rowsT G])) : ∃ r, m_longest_along [o, .str w] h = .ok (optT r) h ∧ IsL (St G W H a) (sx a) (sy a) r := by
  have h0 := D.h0
  have h1 := D.h1
  have w0 := D.w0
  have w1 := D.w1
  have er : (G.map fun r => T.str (rowS r)).length = H := by rw [List.length_map, D.len]
  obtain ⟨r0, er0, hr0⟩ : ∃ r0, atI (G.map fun r => T.str (rowS r)) 0 = some (.str (rowS r0)) ∧ r0 ∈ G := by
    rw [ix_nn (Int.le_refl _) (by rw [er]; omega), List.getElem?_map]
    have : (0 : Nat) < G.length := by rw [D.len]; exact h0
    refine ⟨G[0], ?_, List.getElem_mem this⟩
    show Option.map _ G[0]? = _
    rw [List.getElem?_eq_getElem this]
    rfl
  have el0 : (rowS r0).length = W := by rw [rowS_len, D.row r0 hr0]
  have ho' := ho
  unfold rowsT at ho'
  let R : T → VH → Prop := fun t h' => t = .non ∧ h' = h ∧ ∃ x y, spots G W H a x y = []
  have inner : ∀ (i : Nat) (b : Int) (c4 c5 c6 c7 c8 c9 : Option T), Good G W H a b (dn W i 0) →
      (∃ τ' h', sFor (iRange1 (aCons (eCall fLen (aCons (eOp TL.bIx (eFld 2 1 (eVar 0)) (eK (.int 0))) aNil)) aNil)) (mgName 4) bodyE [some o, some (.str w), some (.int b), some (.int (i : Nat)), c4, c5, c6, c7, c8, c9] h = .nx τ' h' ∧ (h' = h ∧ ∃ (b : Int) (c4 c5 c6 c7 c8 c9 : Option T), τ' = [some o, some (.str w), some (.int b), some (.int (i : Nat)), c4, c5, c6, c7, c8, c9] ∧ Good G W H a b (dn W i W))) ∨
      ∃ t h', sFor (iRange1 (aCons (eCall fLen (aCons (eOp TL.bIx (eFld 2 1 (eVar 0)) (eK (.int 0))) aNil)) aNil)) (mgName 4) bodyE [some o, some (.str w), some (.int b), some (.int (i : Nat)), c4, c5, c6, c7, c8, c9] h = .rt t h' ∧ R t h' := by
    intro i b c4 c5 c6 c7 c8 c9 hg
    have z := sFor_or (mi := iRange1 (aCons (eCall fLen (aCons (eOp TL.bIx (eFld 2 1 (eVar 0)) (eK (.int 0))) aNil)) aNil)) (g := mgName 4) (body := bodyE) (τ := [some o, some (.str w), some (.int b), some (.int (i : Nat)), c4, c5, c6, c7, c8, c9]) (h := h) (h1 := h) (rd := fun _ => some (rangeT 0 W)) (ts := rangeT 0 W)
      (fun j τ h' => h' = h ∧ ∃ (b : Int) (c4 c5 c6 c7 c8 c9 : Option T), τ = [some o, some (.str w), some (.int b), some (.int (i : Nat)), c4, c5, c6, c7, c8, c9] ∧ Good G W H a b (dn W i j)) R
      (by
        simp only [iRange1, aCons, aNil, eCall, eOp, eFld, eVar, eK, List.getElem?_cons_succ, List.getElem?_cons_zero, ho', if_true, TL.bIx, TL.listOf, er0, fLen, el0]
        rw [if_pos ⟨by omega, by omega⟩, Int.toNat_natCast])
      ⟨rfl, b, c4, c5, c6, c7, c8, c9, rfl, hg⟩ (fun _ _ _ _ => rfl) (fun j hj τ h' I => by
        obtain ⟨rfl, b, c4, c5, c6, c7, c8, c9, rfl, hg⟩ := I
        obtain ⟨hj2, ej⟩ := range_at hj
        rw [ej, Int.zero_add]
        refine ⟨[some o, some (.str w), some (.int b), some (.int (i : Nat)), some (.int (j : Nat)), c5, c6, c7, c8, c9], h', rfl, ?_⟩
        rcases turn_ok D Wy ho (j : Int) (i : Int) b c5 c6 c7 c8 c9 with ⟨q1, q2⟩ | ⟨l0, r, q1, d5, d6, d7, q2⟩
        · exact .inr ⟨_, _, q2, rfl, rfl, _, _, q1⟩
        · refine .inl ⟨_, _, q2, rfl, _, _, _, _, _, _, _, rfl, (hg.turn q1).le fun x y hxy => ?_⟩
          obtain ⟨i', j', rfl, rfl, k1, k2⟩ := hxy
          rcases k2 with k2 | ⟨k2, k3⟩
          · exact .inl ⟨i', j', rfl, rfl, k1, .inl k2⟩
          · by_cases q : j' = j
            · exact .inr ⟨by rw [q], by rw [k2]⟩
            · exact .inl ⟨i', j', rfl, rfl, k1, .inr ⟨k2, by omega⟩⟩)
    rw [range_len] at z
    exact z
  have outer := sFor_or (mi := iRange1 (aCons (eCall fLen (aCons (eFld 2 1 (eVar 0)) aNil)) aNil)) (g := mgName 3) (body := sFor (iRange1 (aCons (eCall fLen (aCons (eOp TL.bIx (eFld 2 1 (eVar 0)) (eK (.int 0))) aNil)) aNil)) (mgName 4) bodyE) (τ := [some o, some (.str w), some (.int 0), none, none, none, none, none, none, none]) (h := h) (h1 := h) (rd := fun _ => some (rangeT 0 H)) (ts := rangeT 0 H)
    (fun i τ h' => h' = h ∧ ∃ (b : Int) (c3 c4 c5 c6 c7 c8 c9 : Option T), τ = [some o, some (.str w), some (.int b), c3, c4, c5, c6, c7, c8, c9] ∧ Good G W H a b (dn W i 0)) R
    (by
      simp only [iRange1, aCons, aNil, eCall, eFld, eVar, List.getElem?_cons_succ, List.getElem?_cons_zero, ho', if_true, fLen, seqOf, TL.listOf, er]
      rw [if_pos ⟨by omega, by omega⟩, Int.toNat_natCast])
    ⟨rfl, 0, none, none, none, none, none, none, none, rfl, ⟨0, rfl, .inl rfl⟩, fun x y hxy => by
      obtain ⟨i', j', _, _, _, k⟩ := hxy
      omega⟩ (fun _ _ _ _ => rfl) (fun i hi τ h' I => by
      obtain ⟨rfl, b, c3, c4, c5, c6, c7, c8, c9, rfl, hg⟩ := I
      obtain ⟨hi2, ei⟩ := range_at hi
      rw [ei, Int.zero_add]
      refine ⟨[some o, some (.str w), some (.int b), some (.int (i : Nat)), c4, c5, c6, c7, c8, c9], h', rfl, ?_⟩
      rcases inner i b c4 c5 c6 c7 c8 c9 hg with ⟨τ', h2, q1, rfl, b', d4, d5, d6, d7, d8, d9, rfl, hg'⟩ | q
      · refine .inl ⟨_, _, q1, rfl, b', _, d4, d5, d6, d7, d8, d9, rfl, hg'.le fun x y hxy => ?_⟩
        obtain ⟨i', j', rfl, rfl, k1, k2⟩ := hxy
        refine ⟨i', j', rfl, rfl, k1, ?_⟩
        rcases k2 with k2 | ⟨k2, k3⟩
        · by_cases q : i' = i
          · exact .inr ⟨q, k1⟩
          · exact .inl (by omega)
        · omega
      · exact .inr q)
  rw [range_len] at outer
  have t0 : startT 10 [o, .str w] = [some o, some (.str w), none, none, none, none, none, none, none, none] := rfl
  rcases outer with ⟨τ', h', q1, rfl, b, c3, c4, c5, c6, c7, c8, c9, rfl, hg⟩ | ⟨t, h', q1, rfl, rfl, x, y, hs⟩
  · obtain ⟨n, rfl, hL⟩ := good_end D hg fun x y => by
      have a1 := Int.emod_nonneg x (b := (W : Int)) (by omega)
      have a2 := Int.emod_lt_of_pos x (b := (W : Int)) (by omega)
      have a3 := Int.emod_nonneg y (b := (H : Int)) (by omega)
      have a4 := Int.emod_lt_of_pos y (b := (H : Int)) (by omega)
      exact ⟨(y % H).toNat, (x % W).toNat, by omega, by omega, by omega, .inl (by omega)⟩
    refine ⟨some n, ?_, hL⟩
    exact defM_rt rfl ((seq_nx (τ1 := [some o, some (.str w), some (.int 0), none, none, none, none, none, none, none]) rfl).trans ((seq_nx q1).trans rfl))
  · refine ⟨none, ?_, none_end D hs⟩
    exact defM_rt rfl ((seq_nx (τ1 := [some o, some (.str w), some (.int 0), none, none, none, none, none, none, none]) rfl).trans (seq_rt q1))
end
end K33
set_option Elab.async false
set_option linter.all false
set_option maxRecDepth 100000
set_option maxHeartbeats 400000
namespace K33
open PySem L2 TL KG
theorem way_e : Way "e" 6 := ⟨rfl, by decide, by decide, by decide⟩
theorem way_n : Way "n" 8 := ⟨rfl, by decide, by decide, by decide⟩
theorem way_a : Way "a" 9 := ⟨rfl, by decide, by decide, by decide⟩
theorem way_b : Way "b" 7 := ⟨rfl, by decide, by decide, by decide⟩
def held : Option Nat → Option Nat → Option Nat → Option Nat → Option Nat
  | some e, some n, some a, some b => some (1 + max (max (max e n) a) b)
  | _, _, _, _ => none
def toldT (e n a b : Option Nat) : T := .lst [optT e, optT n, optT a, optT b, optT (held e n a b)]
section
variable {G : List (List Nat)} {W H : Nat}
theorem pat_at (G : List (List Nat)) (h : VH) : getI h (pat G) = some (2, [.str (spell G), rowsT G]) := rfl
theorem free_ok {w : Str} {h : VH} {t : T} (hw : m_check_way [.str w] h = .ok .non h) (e : m_longest_along [pat G, .str w] h = .ok t h) : m_longest_free [pat G, .str w] h = .ok t h := by
  have c1 : m_check_pattern [pat G] h = .ok .non h := rfl
  refine defM_rt rfl ?_
  show s_longest_free [some (pat G), some (.str w)] h = _
  exact (seq_nx (expr_ok ((call_ok (ts := [pat G]) rfl).trans c1))).trans ((seq_nx (expr_ok ((call_ok (ts := [.str w]) rfl).trans hw))).trans (ret_ok ((call_ok (ts := [pat G, .str w]) rfl).trans e)))
theorem found_ok {h : VH} {e n a b : Option Nat} (h6 : m_longest_along [pat G, .str "e"] h = .ok (optT e) h) (h8 : m_longest_along [pat G, .str "n"] h = .ok (optT n) h) (h9 : m_longest_along [pat G, .str "a"] h = .ok (optT a) h) (h7 : m_longest_along [pat G, .str "b"] h = .ok (optT b) h) (c2 : Option T) :
    mLc (iKeysK kv_AHEAD) [2] (mgName 2) bYes (eCall m_longest_along (aCons (eVar 0) (aCons (eVar 2) aNil))) [some (pat G), none, c2] h = .ok [optT e, optT n, optT a, optT b] h := by
  have kv : List (Str × T) := [("e", optT e), ("n", optT n), ("a", optT a), ("b", optT b)]
  have z := mLc_map (mi := iKeysK kv_AHEAD) (ws := [2]) (g := mgName 2) (e := eCall m_longest_along (aCons (eVar 0) (aCons (eVar 2) aNil))) (τ := [some (pat G), none, c2]) (h := h) (rd := fun _ => some (kv_AHEAD.map fun q => T.str q.1)) (ts := [.str "e", .str "n", .str "a", .str "b"])
    rfl rfl (by decide) (fun t => match t with | .str w => (([("e", optT e), ("n", optT n), ("a", optT a), ("b", optT b)] : List (Str × T)).lookup w).getD .non | t => t) (fun t ht => by
      refine ⟨_, rfl, ?_⟩
      simp only [List.mem_cons, List.not_mem_nil, or_false] at ht
      rcases ht with rfl | rfl | rfl | rfl
      · exact (call_ok (ts := [pat G, .str "e"]) rfl).trans h6
      · exact (call_ok (ts := [pat G, .str "n"]) rfl).trans h8
      · exact (call_ok (ts := [pat G, .str "a"]) rfl).trans h9
      · exact (call_ok (ts := [pat G, .str "b"]) rfl).trans h7)
  exact z
theorem held_ok {h : VH} {e n a b : Option Nat} (h6 : m_longest_along [pat G, .str "e"] h = .ok (optT e) h) (h8 : m_longest_along [pat G, .str "n"] h = .ok (optT n) h) (h9 : m_longest_along [pat G, .str "a"] h = .ok (optT a) h) (h7 : m_longest_along [pat G, .str "b"] h = .ok (optT b) h) :
    m_least_held [pat G] h = .ok (optT (held e n a b)) h := by
  have c1 : m_check_pattern [pat G] h = .ok .non h := rfl
  refine defM_rt rfl ?_
  show s_least_held [some (pat G), none, none] h = _
  refine (seq_nx (expr_ok (t := .non) ((call_ok (ts := [pat G]) rfl).trans c1))).trans ((seq_nx (set_ok (eL_ok (found_ok h6 h8 h9 h7 none)))).trans (ret_ok ?_))
  show eIf _ _ _ [some (pat G), some (.lst [optT e, optT n, optT a, optT b]), none] h = _
  cases e <;> cases n <;> cases a <;> cases b <;>
    simp [eIf, bTest, eOp, eK, eVar, bIn, bInG, T.dat, optT, PyData.eqv, held, TL.bAdd, eCall, aCons, aNil, fMax, fInts, TL.listOf, intsOf, maxI]
  omega
theorem told_ok (D : Dim G W H) (M : Mut G W H) {h : VH} (hl : h.all (VO.lowR h.length) = true) : ∃ e n a b, m_law_told [gridT G] h = .ok (toldT e n a b) h ∧ IsL (St G W H 6) 1 0 e ∧ IsL (St G W H 8) 0 1 n ∧ IsL (St G W H 9) 1 1 a ∧ IsL (St G W H 7) (-1) 1 b := by
  obtain ⟨e, h6, i6⟩ := along_ok D way_e (pat_at G h)
  obtain ⟨n, h8, i8⟩ := along_ok D way_n (pat_at G h)
  obtain ⟨a, h9, i9⟩ := along_ok D way_a (pat_at G h)
  obtain ⟨b, h7, i7⟩ := along_ok D way_b (pat_at G h)
  refine ⟨e, n, a, b, ?_, i6, i8, i9, i7⟩
  have mk := make_ok D M hl
  have sp := spelled_ok D (mut_digs D M) h
  have f6 := free_ok (G := G) (w := "e") (h := h) rfl h6
  have f8 := free_ok (G := G) (w := "n") (h := h) rfl h8
  have f9 := free_ok (G := G) (w := "a") (h := h) rfl h9
  have f7 := free_ok (G := G) (w := "b") (h := h) rfl h7
  have hd := held_ok h6 h8 h9 h7
  have cs : mLc (iSeqC (eL (aLim (aCons (eK (.str "e")) (aCons (eK (.str "n")) (aCons (eK (.str "a")) (aCons (eK (.str "b")) aNil))))))) [2] (mgName 2) bYes (eCall m_longest_free (aCons (eVar 1) (aCons (eVar 2) aNil))) [some (gridT G), some (pat G), none] h = .ok [optT e, optT n, optT a, optT b] h := by
    have z := mLc_map (mi := iSeqC (eL (aLim (aCons (eK (.str "e")) (aCons (eK (.str "n")) (aCons (eK (.str "a")) (aCons (eK (.str "b")) aNil))))))) (ws := [2]) (g := mgName 2) (e := eCall m_longest_free (aCons (eVar 1) (aCons (eVar 2) aNil))) (τ := [some (gridT G), some (pat G), none]) (h := h)
      (rd := fun h => seqS h (.lst [.str "e", .str "n", .str "a", .str "b"])) (ts := [.str "e", .str "n", .str "a", .str "b"])
      (by simp [iSeqC, eL, aLim, aCons, aNil, eK, walkable, seqS, seqOf, TL.listOf]) rfl (by decide) (fun t => match t with | .str w => (([("e", optT e), ("n", optT n), ("a", optT a), ("b", optT b)] : List (Str × T)).lookup w).getD .non | t => t) (fun t ht => by
        refine ⟨_, rfl, ?_⟩
        simp only [List.mem_cons, List.not_mem_nil, or_false] at ht
        rcases ht with rfl | rfl | rfl | rfl
        · exact (call_ok (ts := [pat G, .str "e"]) rfl).trans f6
        · exact (call_ok (ts := [pat G, .str "n"]) rfl).trans f8
        · exact (call_ok (ts := [pat G, .str "a"]) rfl).trans f9
        · exact (call_ok (ts := [pat G, .str "b"]) rfl).trans f7)
    exact z
  refine defM_rt rfl ?_
  show s_law_told [some (gridT G), none, none] h = _
  have e1 : eCall (cutM (makeM 2 m_Pattern___init__)) (aCons (eCall m_law_spelled (aCons (eVar 0) aNil)) aNil) [some (gridT G), none, none] h = .ok (pat G) h :=
    (call_ok (cons_ok ((call_ok (ts := [gridT G]) rfl).trans sp) rfl)).trans mk
  refine (seq_nx (set_ok e1)).trans (ret_ok ?_)
  have e2 : eL (aLim (aCons (eCall m_least_held (aCons (eVar 1) aNil)) aNil)) [some (gridT G), some (pat G), none] h = .ok (.lst [optT (held e n a b)]) h := by
    refine eL_ok ?_
    unfold aLim
    rw [cons_ok ((call_ok (ts := [pat G]) rfl).trans hd) rfl]
    rfl
  exact (op_ok (eL_ok cs) e2).trans rfl
end
end K33
set_option Elab.async false
set_option linter.all false
set_option maxRecDepth 100000
set_option maxHeartbeats 400000
namespace K33
open PySem L2 TL KG
section
variable {G G' : List (List Nat)} {W H W' H' : Nat}
theorem Mut.map (M : Mut G W H) (p q : Int → Int → Int) (g : Nat → Nat) (hc : ∀ x y, cell G' W' H' x y = g (cell G W H (p x y) (q x y))) (hg : ∀ v, v < 10 → v ≠ 5 → g v < 10 ∧ g v ≠ 5 ∧ (v = 0 → g v = 0) ∧ (v ≠ 0 → ∀ u, u + v = 10 → g u + g v = 10))
    (hs : ∀ x y v, v < 10 → v ≠ 5 → v ≠ 0 → p (x + sx (g v)) (y + sy (g v)) = p x y + sx v ∧ q (x + sx (g v)) (y + sy (g v)) = q x y + sy v) : Mut G' W' H' := by
  refine ⟨fun x y => ?_, fun x y => ?_, fun x y hne => ?_⟩
  · rw [hc]; exact (hg _ (M.lt _ _) (M.n5 _ _)).1
  · rw [hc]; exact (hg _ (M.lt _ _) (M.n5 _ _)).2.1
  · have a := M.lt (p x y) (q x y)
    have b := M.n5 (p x y) (q x y)
    have c := M.mate (p x y) (q x y)
    rw [hc x y] at hne ⊢
    generalize hv : cell G W H (p x y) (q x y) = v at a b c hne ⊢
    obtain ⟨_, _, g3, g4⟩ := hg v a b
    have v0 : v ≠ 0 := fun z => hne (g3 z)
    obtain ⟨s1, s2⟩ := hs x y v a b v0
    rw [hc, s1, s2]
    exact g4 v0 _ (c v0)
theorem sx_neg (v : Nat) (hv : v < 10) (h5 : v ≠ 5) (h0 : v ≠ 0) : sx (10 - v) = - sx v ∧ sy (10 - v) = - sy v := by
  refine ten (P := fun v => v ≠ 0 → sx (10 - v) = - sx v ∧ sy (10 - v) = - sy v) ?_ ?_ ?_ ?_ ?_ ?_ ?_ ?_ ?_ v hv h5 h0
  · intro z; exact absurd rfl z
  all_goals intro _; exact ⟨rfl, rfl⟩
theorem mate_iff (M : Mut G W H) {v : Nat} (hv : v < 10) (h5 : v ≠ 5) (h0 : v ≠ 0) (x y : Int) : St G W H v x y ↔ St G W H (10 - v) (x + sx v) (y + sy v) := by
  unfold St
  constructor
  · intro e
    have := M.mate x y (by rw [e]; exact h0)
    rw [e] at this
    omega
  · intro e
    have := M.mate (x + sx v) (y + sy v) (by rw [e]; omega)
    obtain ⟨n1, n2⟩ := sx_neg v hv h5 h0
    rw [e, n1, n2] at this
    have e1 : x + sx v + - sx v = x := by omega
    have e2 : y + sy v + - sy v = y := by omega
    rw [e1, e2] at this
    omega
theorem IsL.mate (M : Mut G W H) {v : Nat} (hv : v < 10) (h5 : v ≠ 5) (h0 : v ≠ 0) {dx dy : Int} {r : Option Nat} (h : IsL (St G W H v) dx dy r) : IsL (St G W H (10 - v)) dx dy r := by
  refine IsL.map (fun x _ => x + sx v) (fun _ y => y + sy v) (fun x y => mate_iff M hv h5 h0 x y) (fun x y k => by omega) (fun x y k => by omega) (fun s t => ⟨s - sx v, t - sy v, by omega, by omega⟩) h
/-- a grid by its cells -/
def ofFn (W H : Nat) (f : Nat → Nat → Nat) : List (List Nat) := (List.range H).map fun k => (List.range W).map fun j => f j k
theorem ofFn_dim {f : Nat → Nat → Nat} (hH : 0 < H) (h1 : H ≤ 12) (hW : 0 < W) (w1 : W ≤ 12) : Dim (ofFn W H f) W H :=
  ⟨by simp [ofFn], hH, h1, fun r hr => by obtain ⟨k, _, rfl⟩ := List.mem_map.mp hr; simp, hW, w1⟩
theorem ofFn_cell {f : Nat → Nat → Nat} (hH : 0 < H) (hW : 0 < W) (x y : Int) : cell (ofFn W H f) W H x y = f (x % W).toNat (y % H).toNat := by
  unfold cell rowAt ofFn
  have a := mod_lt' y hH
  have b := mod_lt' x hW
  rw [List.getD_eq_getElem?_getD, List.getD_eq_getElem?_getD, List.getElem?_map, List.getElem?_range a]
  simp only [Option.map_some, Option.getD_some]
  rw [List.getElem?_map, List.getElem?_range b]
  rfl
theorem rows_add (D : Dim G W H) : Dim (G.map fun r => r ++ r) (2 * W) H ↔ True ∧ 2 * W ≤ 12 := by
  constructor
  · intro d; exact ⟨trivial, d.w1⟩
  · intro d
    refine ⟨by rw [List.length_map]; exact D.len, D.h0, D.h1, fun r hr => ?_, by have := D.w0; omega, d.2⟩
    obtain ⟨s, hs, rfl⟩ := List.mem_map.mp hr
    rw [List.length_append, D.row s hs]
    omega
theorem getD_app (l : List Nat) (i : Nat) (hi : i < 2 * l.length) : (l ++ l).getD i 0 = l.getD (i % l.length) 0 := by
  rw [List.getD_eq_getElem?_getD, List.getD_eq_getElem?_getD]
  by_cases h : i < l.length
  · rw [List.getElem?_append_left h, Nat.mod_eq_of_lt h]
  · rw [List.getElem?_append_right (by omega)]
    have : i % l.length = i - l.length := by
      rw [Nat.mod_eq_sub_mod (by omega), Nat.mod_eq_of_lt (by omega)]
    rw [this]
theorem getD_appL (l : List (List Nat)) (i : Nat) (hi : i < 2 * l.length) : (l ++ l).getD i [] = l.getD (i % l.length) [] := by
  rw [List.getD_eq_getElem?_getD, List.getD_eq_getElem?_getD]
  by_cases h : i < l.length
  · rw [List.getElem?_append_left h, Nat.mod_eq_of_lt h]
  · rw [List.getElem?_append_right (by omega)]
    have : i % l.length = i - l.length := by
      rw [Nat.mod_eq_sub_mod (by omega), Nat.mod_eq_of_lt (by omega)]
    rw [this]
theorem mod_mod2 (x : Int) {n : Nat} (hn : 0 < n) : (x % ((2 * n : Nat) : Int)).toNat % n = (x % (n : Int)).toNat := by
  have a := Int.emod_nonneg x (b := ((2 * n : Nat) : Int)) (by omega)
  have e : (((x % ((2 * n : Nat) : Int)).toNat % n : Nat) : Int) = x % (n : Int) := by
    rw [Int.natCast_emod, Int.toNat_of_nonneg a]
    exact Int.emod_emod_of_dvd x ⟨2, by rw [Int.natCast_mul]; omega⟩
  have b := Int.emod_nonneg x (b := (n : Int)) (by omega)
  omega
theorem rowAt_map (D : Dim G W H) (f : List Nat → List Nat) (y : Int) : rowAt (G.map f) H y = f (rowAt G H y) := by
  unfold rowAt
  have h := mod_lt' y D.h0
  rw [List.getD_eq_getElem?_getD, List.getD_eq_getElem?_getD, List.getElem?_map, List.getElem?_eq_getElem (by rw [D.len]; exact h)]
  rfl
theorem wide_cell (D : Dim G W H) (x y : Int) : cell (G.map fun r => r ++ r) (2 * W) H x y = cell G W H x y := by
  unfold cell
  rw [rowAt_map D]
  have hl := D.row _ (D.rowAt_mem y)
  have w0 := D.w0
  rw [getD_app _ _ (by rw [hl]; exact mod_lt' x (by omega)), hl, mod_mod2 x w0]
theorem high_cell (D : Dim G W H) (x y : Int) : cell (G ++ G) W (2 * H) x y = cell G W H x y := by
  have h0 := D.h0
  have e : rowAt (G ++ G) (2 * H) y = rowAt G H y := by
    unfold rowAt
    rw [getD_appL _ _ (by rw [D.len]; exact mod_lt' y (by omega)), D.len, mod_mod2 y h0]
  unfold cell
  rw [e]
theorem high_dim (D : Dim G W H) (h : 2 * H ≤ 12) : Dim (G ++ G) W (2 * H) :=
  ⟨by rw [List.length_append, D.len]; omega, by have := D.h0; omega, h, fun r hr => by
    rcases List.mem_append.mp hr with z | z <;> exact D.row r z, D.w0, D.w1⟩
theorem Mut.same (M : Mut G W H) (hc : ∀ x y, cell G' W' H' x y = cell G W H x y) : Mut G' W' H' := ⟨fun x y => by rw [hc]; exact M.lt x y, fun x y => by rw [hc]; exact M.n5 x y, fun x y h => by rw [hc x y] at h ⊢; rw [hc]; exact M.mate x y h⟩
theorem IsL.same (hc : ∀ x y, cell G' W' H' x y = cell G W H x y) {v : Nat} {dx dy : Int} {r : Option Nat} (h : IsL (St G' W' H' v) dx dy r) : IsL (St G W H v) dx dy r := by
  have e : St G' W' H' v = St G W H v := funext fun x => funext fun y => by unfold St; rw [hc]
  rw [← e]
  exact h
def oth1 (d : Nat) : Nat := [0, 3, 6, 9, 2, 5, 8, 1, 4, 7].getD d 0
def oth2 (d : Nat) : Nat := [0, 3, 2, 1, 6, 5, 4, 9, 8, 7].getD d 0
def turned (G : List (List Nat)) (W H : Nat) : List (List Nat) := ofFn H W fun j k => oth1 (cell G W H (k : Nat) ((H : Int) - 1 - j))
def mirrored (G : List (List Nat)) : List (List Nat) := G.map fun r => r.reverse.map oth2
theorem turned_cell (D : Dim G W H) (x y : Int) : cell (turned G W H) H W x y = oth1 (cell G W H y (-1 - x)) := by
  unfold turned
  rw [ofFn_cell D.w0 D.h0]
  congr 1
  have a := Int.emod_nonneg x (b := (H : Int)) (by have := D.h0; omega)
  have b := Int.emod_nonneg y (b := (W : Int)) (by have := D.w0; omega)
  apply cell_congr
  · rw [Int.toNat_of_nonneg b, Int.emod_emod]
  · rw [Int.toNat_of_nonneg a]
    have e := Int.emod_add_mul_ediv x (H : Int)
    generalize hr : x % (H : Int) = r at e
    generalize hq : x / (H : Int) = q at e
    have : (H : Int) - 1 - r = -1 - x + H * (1 + q) := by rw [Int.mul_add, ← e]; omega
    rw [this, Int.add_mul_emod_self_left]
theorem mirrored_cell (D : Dim G W H) (x y : Int) : cell (mirrored G) W H x y = oth2 (cell G W H (-1 - x) y) := by
  unfold cell mirrored
  rw [rowAt_map D]
  have hl := D.row _ (D.rowAt_mem y)
  have h1 := mod_lt' x D.w0
  have h2 := mod_lt' (-1 - x) D.w0
  have w0 := D.w0
  have e : (((-1 : Int) - x) % (W : Int)).toNat = W - 1 - (x % (W : Int)).toNat := by
    have a := Int.emod_nonneg x (b := (W : Int)) (by omega)
    have e := Int.emod_add_mul_ediv x (W : Int)
    have b := Int.emod_lt_of_pos x (b := (W : Int)) (by omega)
    generalize hr : x % (W : Int) = r at e a b ⊢
    generalize hq : x / (W : Int) = q at e
    have : (-1 : Int) - x = (W - 1 - r) + W * (-1 - q) := by rw [← e, Int.mul_sub]; omega
    rw [this, Int.add_mul_emod_self_left, Int.emod_eq_of_lt (by omega) (by omega)]
    omega
  rw [e, List.getD_eq_getElem?_getD, List.getD_eq_getElem?_getD, List.getElem?_map, List.getElem?_reverse (by rw [hl]; exact h1), hl, List.getElem?_eq_getElem (by rw [hl]; omega)]
  rfl
theorem turned_mut (D : Dim G W H) (M : Mut G W H) : Mut (turned G W H) H W := by
  refine M.map (fun _ y => y) (fun x _ => -1 - x) oth1 (turned_cell D) (fun v hv h5 => ?_) (fun x y v hv h5 h0 => ?_)
  · refine ten (P := fun v => oth1 v < 10 ∧ oth1 v ≠ 5 ∧ (v = 0 → oth1 v = 0) ∧ (v ≠ 0 → ∀ u, u + v = 10 → oth1 u + oth1 v = 10)) ?_ ?_ ?_ ?_ ?_ ?_ ?_ ?_ ?_ v hv h5
    all_goals
      refine ⟨by decide, by decide, by decide, fun _ u hu => ?_⟩
      first
        | (exfalso; simp at *; done)
        | (have : u = 10 - 1 ∨ u = 10 - 2 ∨ u = 10 - 3 ∨ u = 10 - 4 ∨ u = 10 - 6 ∨ u = 10 - 7 ∨ u = 10 - 8 ∨ u = 10 - 9 := by omega
           rcases this with rfl | rfl | rfl | rfl | rfl | rfl | rfl | rfl <;> first | rfl | omega)
  · have key : sy (oth1 v) = sx v ∧ - sx (oth1 v) = sy v := by
      refine ten (P := fun v => sy (oth1 v) = sx v ∧ - sx (oth1 v) = sy v) ?_ ?_ ?_ ?_ ?_ ?_ ?_ ?_ ?_ v hv h5 <;> decide
    exact ⟨by rw [key.1], by rw [← key.2]; omega⟩
theorem mirrored_mut (D : Dim G W H) (M : Mut G W H) : Mut (mirrored G) W H := by
  refine M.map (fun x _ => -1 - x) (fun _ y => y) oth2 (mirrored_cell D) (fun v hv h5 => ?_) (fun x y v hv h5 h0 => ?_)
  · refine ten (P := fun v => oth2 v < 10 ∧ oth2 v ≠ 5 ∧ (v = 0 → oth2 v = 0) ∧ (v ≠ 0 → ∀ u, u + v = 10 → oth2 u + oth2 v = 10)) ?_ ?_ ?_ ?_ ?_ ?_ ?_ ?_ ?_ v hv h5
    all_goals
      refine ⟨by decide, by decide, by decide, fun _ u hu => ?_⟩
      first
        | (exfalso; simp at *; done)
        | (have : u = 10 - 1 ∨ u = 10 - 2 ∨ u = 10 - 3 ∨ u = 10 - 4 ∨ u = 10 - 6 ∨ u = 10 - 7 ∨ u = 10 - 8 ∨ u = 10 - 9 := by omega
           rcases this with rfl | rfl | rfl | rfl | rfl | rfl | rfl | rfl <;> first | rfl | omega)
  · have key : - sx (oth2 v) = sx v ∧ sy (oth2 v) = sy v := by
      refine ten (P := fun v => - sx (oth2 v) = sx v ∧ sy (oth2 v) = sy v) ?_ ?_ ?_ ?_ ?_ ?_ ?_ ?_ ?_ v hv h5 <;> decide
    exact ⟨by rw [← key.1]; omega, by rw [key.2]⟩
end
end K33
set_option Elab.async false
set_option linter.all false
set_option maxRecDepth 100000
set_option maxHeartbeats 400000
namespace K33
open PySem L2 TL KG
section
variable {G G' : List (List Nat)} {W H W' H' : Nat}
def Tell (G : List (List Nat)) (W H : Nat) (e n a b : Option Nat) : Prop := IsL (St G W H 6) 1 0 e ∧ IsL (St G W H 8) 0 1 n ∧ IsL (St G W H 9) 1 1 a ∧ IsL (St G W H 7) (-1) 1 b
theorem Tell.uniq {e n a b e' n' a' b' : Option Nat} (h : Tell G W H e n a b) (h' : Tell G W H e' n' a' b') : e' = e ∧ n' = n ∧ a' = a ∧ b' = b := ⟨h'.1.uniq h.1, h'.2.1.uniq h.2.1, h'.2.2.1.uniq h.2.2.1, h'.2.2.2.uniq h.2.2.2⟩
theorem turned_isl (D : Dim G W H) (M : Mut G W H) {v u : Nat} (hu : ∀ d, d < 10 → d ≠ 5 → (oth1 d = v ↔ d = u)) {dx dy : Int} {r : Option Nat} (h : IsL (St (turned G W H) H W v) dx dy r) : IsL (St G W H u) dy (-dx) r :=
  IsL.map (fun _ y => y) (fun x _ => -1 - x) (fun x y => by unfold St; rw [turned_cell D]; exact hu _ (M.lt _ _) (M.n5 _ _)) (fun x y k => rfl) (fun x y k => by rw [Int.mul_neg]; omega) (fun s t => ⟨-1 - t, s, rfl, by omega⟩) h
theorem mirrored_isl (D : Dim G W H) (M : Mut G W H) {v u : Nat} (hu : ∀ d, d < 10 → d ≠ 5 → (oth2 d = v ↔ d = u)) {dx dy : Int} {r : Option Nat} (h : IsL (St (mirrored G) W H v) dx dy r) : IsL (St G W H u) (-dx) dy r :=
  IsL.map (fun x _ => -1 - x) (fun _ y => y) (fun x y => by unfold St; rw [mirrored_cell D]; exact hu _ (M.lt _ _) (M.n5 _ _)) (fun x y k => by rw [Int.mul_neg]; omega) (fun x y k => rfl) (fun s t => ⟨-1 - s, t, by omega, rfl⟩) h
theorem moved_isl (s t : Int) (hc : ∀ x y, cell G' W H x y = cell G W H (s + x) (t + y)) {v : Nat} {dx dy : Int} {r : Option Nat} (h : IsL (St G' W H v) dx dy r) : IsL (St G W H v) dx dy r :=
  IsL.map (fun x _ => s + x) (fun _ y => t + y) (fun x y => by unfold St; rw [hc]) (fun x y k => by omega) (fun x y k => by omega) (fun p q => ⟨p - s, q - t, by omega, by omega⟩) h
theorem tell_turned (D : Dim G W H) (M : Mut G W H) {e n a b e' n' a' b' : Option Nat} (h : Tell G W H e n a b) (h' : Tell (turned G W H) H W e' n' a' b') : e' = n ∧ n' = e ∧ a' = b ∧ b' = a := by
  obtain ⟨h6, h8, h9, h7⟩ := h
  obtain ⟨k6, k8, k9, k7⟩ := h'
  have c6 := turned_isl D M (v := 6) (u := 2) (fun d hd h5 => ten (P := fun d => oth1 d = 6 ↔ d = 2) (by decide) (by decide) (by decide) (by decide) (by decide) (by decide) (by decide) (by decide) (by decide) d hd h5) k6
  have c8 := turned_isl D M (v := 8) (u := 6) (fun d hd h5 => ten (P := fun d => oth1 d = 8 ↔ d = 6) (by decide) (by decide) (by decide) (by decide) (by decide) (by decide) (by decide) (by decide) (by decide) d hd h5) k8
  have c9 := turned_isl D M (v := 9) (u := 3) (fun d hd h5 => ten (P := fun d => oth1 d = 9 ↔ d = 3) (by decide) (by decide) (by decide) (by decide) (by decide) (by decide) (by decide) (by decide) (by decide) d hd h5) k9
  have c7 := turned_isl D M (v := 7) (u := 9) (fun d hd h5 => ten (P := fun d => oth1 d = 7 ↔ d = 9) (by decide) (by decide) (by decide) (by decide) (by decide) (by decide) (by decide) (by decide) (by decide) d hd h5) k7
  exact ⟨((IsL.mate M (by decide) (by decide) (by decide) c6.rev) : IsL (St G W H 8) 0 1 e').uniq h8, (c8 : IsL (St G W H 6) 1 0 n').uniq h6, ((IsL.mate M (by decide) (by decide) (by decide) c9.rev) : IsL (St G W H 7) (-1) 1 a').uniq h7, (c7 : IsL (St G W H 9) 1 1 b').uniq h9⟩
theorem tell_mirrored (D : Dim G W H) (M : Mut G W H) {e n a b e' n' a' b' : Option Nat} (h : Tell G W H e n a b) (h' : Tell (mirrored G) W H e' n' a' b') : e' = e ∧ n' = n ∧ a' = b ∧ b' = a := by
  obtain ⟨h6, h8, h9, h7⟩ := h
  obtain ⟨k6, k8, k9, k7⟩ := h'
  have c6 := mirrored_isl D M (v := 6) (u := 4) (fun d hd h5 => ten (P := fun d => oth2 d = 6 ↔ d = 4) (by decide) (by decide) (by decide) (by decide) (by decide) (by decide) (by decide) (by decide) (by decide) d hd h5) k6
  have c8 := mirrored_isl D M (v := 8) (u := 8) (fun d hd h5 => ten (P := fun d => oth2 d = 8 ↔ d = 8) (by decide) (by decide) (by decide) (by decide) (by decide) (by decide) (by decide) (by decide) (by decide) d hd h5) k8
  have c9 := mirrored_isl D M (v := 9) (u := 7) (fun d hd h5 => ten (P := fun d => oth2 d = 9 ↔ d = 7) (by decide) (by decide) (by decide) (by decide) (by decide) (by decide) (by decide) (by decide) (by decide) d hd h5) k9
  have c7 := mirrored_isl D M (v := 7) (u := 9) (fun d hd h5 => ten (P := fun d => oth2 d = 7 ↔ d = 9) (by decide) (by decide) (by decide) (by decide) (by decide) (by decide) (by decide) (by decide) (by decide) d hd h5) k7
  exact ⟨((IsL.mate M (by decide) (by decide) (by decide) c6.rev) : IsL (St G W H 6) 1 0 e').uniq h6, (c8 : IsL (St G W H 8) 0 1 n').uniq h8, (c9 : IsL (St G W H 7) (-1) 1 a').uniq h7, (c7 : IsL (St G W H 9) 1 1 b').uniq h9⟩
def begun (G : List (List Nat)) (W H : Nat) (s t : Int) : List (List Nat) := ofFn W H fun j k => cell G W H (s + j) (t + k)
theorem begun_cell (D : Dim G W H) (s t x y : Int) : cell (begun G W H s t) W H x y = cell G W H (s + x) (t + y) := by
  unfold begun
  rw [ofFn_cell D.h0 D.w0]
  have a := Int.emod_nonneg x (b := (W : Int)) (by have := D.w0; omega)
  have b := Int.emod_nonneg y (b := (H : Int)) (by have := D.h0; omega)
  apply cell_congr
  · rw [Int.toNat_of_nonneg a, Int.add_emod_emod]
  · rw [Int.toNat_of_nonneg b, Int.add_emod_emod]
theorem begun_mut (D : Dim G W H) (M : Mut G W H) (s t : Int) : Mut (begun G W H s t) W H :=
  M.map (fun x _ => s + x) (fun _ y => t + y) id (begun_cell D s t) (fun v hv h5 => ⟨hv, h5, id, fun _ u hu => hu⟩) (fun x y v _ _ _ => ⟨by simp only [id]; omega, by simp only [id]; omega⟩)
theorem tell_begun (D : Dim G W H) {s t : Int} {e n a b e' n' a' b' : Option Nat} (h : Tell G W H e n a b) (h' : Tell (begun G W H s t) W H e' n' a' b') : e' = e ∧ n' = n ∧ a' = a ∧ b' = b :=
  h.uniq ⟨moved_isl s t (begun_cell D s t) h'.1, moved_isl s t (begun_cell D s t) h'.2.1, moved_isl s t (begun_cell D s t) h'.2.2.1, moved_isl s t (begun_cell D s t) h'.2.2.2⟩
theorem tell_same (hc : ∀ x y, cell G' W' H' x y = cell G W H x y) {e n a b e' n' a' b' : Option Nat} (h : Tell G W H e n a b) (h' : Tell G' W' H' e' n' a' b') : e' = e ∧ n' = n ∧ a' = a ∧ b' = b :=
  h.uniq ⟨IsL.same hc h'.1, IsL.same hc h'.2.1, IsL.same hc h'.2.2.1, IsL.same hc h'.2.2.2⟩
theorem at_ok (D : Dim G W H) (x y : Int) (h : VH) : m_law_at [gridT G, .int x, .int y] h = .ok (.int (cell G W H x y : Nat)) h := by
  have e1 := D.ixRow (fun r => T.lst (r.map fun d => .int (d : Nat))) y
  have e2 : atI ((rowAt G H y).map fun d => T.int (d : Nat)) (x % W) = some (.int (cell G W H x y : Nat)) := D.ixCell (fun d => T.int (d : Nat)) x y
  have e4 := D.len
  have e5 := D.h0
  have e6 := D.w0
  have er : (G.map fun r => T.lst (r.map fun d => .int (d : Nat))).length = H := by rw [List.length_map, D.len]
  obtain ⟨r0, er0, hr0⟩ : ∃ r0, atI (G.map fun r => T.lst (r.map fun d => .int (d : Nat))) 0 = some (.lst (r0.map fun d => .int (d : Nat))) ∧ r0 ∈ G := by
    rw [ix_nn (Int.le_refl _) (by rw [er]; omega), List.getElem?_map]
    have : (0 : Nat) < G.length := by rw [D.len]; exact D.h0
    refine ⟨G[0], ?_, List.getElem_mem this⟩
    show Option.map _ G[0]? = _
    rw [List.getElem?_eq_getElem this]
    rfl
  have el0 : (r0.map fun d => T.int (d : Nat)).length = W := by rw [List.length_map, D.row r0 hr0]
  have d1 : decide ((0 : Int) < (H : Int)) = true := decide_eq_true (by omega)
  have d2 : decide ((0 : Int) < (W : Int)) = true := decide_eq_true (by omega)
  refine defM_rt rfl (ret_ok ?_)
  show eOp _ _ _ [some (gridT G), some (.int x), some (.int y)] h = _
  unfold gridT
  simp only [eOp, eCall, aCons, aNil, eVar, eK, fInt, fLen, seqOf, TL.listOf, List.getElem?_cons_succ, List.getElem?_cons_zero, er, bMod, bI, d1, d2, if_true, TL.bIx, e1, er0, el0, e2]
theorem begun_ok (D : Dim G W H) (s t : Int) (h : VH) : m_law_begun [gridT G, .int s, .int t] h = .ok (gridT (begun G W H s t)) h := by
  have h0 := D.h0
  have h1 := D.h1
  have w0 := D.w0
  have w1 := D.w1
  have er : (G.map fun r => T.lst (r.map fun d => .int (d : Nat))).length = H := by rw [List.length_map, D.len]
  obtain ⟨r0, er0, hr0⟩ : ∃ r0, atI (G.map fun r => T.lst (r.map fun d => .int (d : Nat))) 0 = some (.lst (r0.map fun d => .int (d : Nat))) ∧ r0 ∈ G := by
    rw [ix_nn (Int.le_refl _) (by rw [er]; omega), List.getElem?_map]
    have : (0 : Nat) < G.length := by rw [D.len]; exact D.h0
    refine ⟨G[0], ?_, List.getElem_mem this⟩
    show Option.map _ G[0]? = _
    rw [List.getElem?_eq_getElem this]
    rfl
  have el0 : (r0.map fun d => T.int (d : Nat)).length = W := by rw [List.length_map, D.row r0 hr0]
  have s1 : sAsg (eTup (aCons (eCall fLen (aCons (eOp TL.bIx (eVar 0) (eK (.int 0))) aNil)) (aCons (eCall fLen (aCons (eVar 0) aNil)) aNil))) (mgTup 2 (mgsCons (mgName 3) (mgsCons (mgName 4) mgsNil))) [some (gridT G), some (.int s), some (.int t), none, none, none, none] h = .nx [some (gridT G), some (.int s), some (.int t), some (.int (W : Nat)), some (.int (H : Nat)), none, none] h := by
    unfold gridT
    simp only [sAsg, eTup, aCons, aNil, eCall, eOp, eVar, eK, List.getElem?_cons_succ, List.getElem?_cons_zero, TL.bIx, TL.listOf, er0, fLen, seqOf, er, el0, mgTup, mgsCons, mgName, mgsNil, List.length_cons, List.length_nil, Nat.reduceAdd, Nat.reduceLeDiff, if_true, List.set_cons_succ, List.set_cons_zero]
  have inner : ∀ (k : Nat) (c : Option T), mLc (iRange1 (aCons (eVar 3) aNil)) [6] (mgName 6) bYes (eCall m_law_at (aCons (eVar 0) (aCons (eOp TL.bAdd (eVar 1) (eVar 6)) (aCons (eOp TL.bAdd (eVar 2) (eVar 5)) aNil)))) [some (gridT G), some (.int s), some (.int t), some (.int (W : Nat)), some (.int (H : Nat)), some (.int (k : Nat)), c] h = .ok ((List.range W).map fun (j : Nat) => T.int (cell G W H (s + (j : Int)) (t + k) : Nat)) h := by
    intro k c
    have z := mLc_map (mi := iRange1 (aCons (eVar 3) aNil)) (ws := [6]) (g := mgName 6) (e := eCall m_law_at (aCons (eVar 0) (aCons (eOp TL.bAdd (eVar 1) (eVar 6)) (aCons (eOp TL.bAdd (eVar 2) (eVar 5)) aNil)))) (τ := [some (gridT G), some (.int s), some (.int t), some (.int (W : Nat)), some (.int (H : Nat)), some (.int (k : Nat)), c]) (h := h)
      (rd := fun _ => some (rangeT 0 W)) (ts := rangeT 0 W) (by simp only [iRange1, aCons, aNil, eVar, List.getElem?_cons_succ, List.getElem?_cons_zero]; rw [if_pos ⟨by omega, by omega⟩, Int.toNat_natCast]) rfl (by rw [range_len]; omega)
      (fun u => match u with | .int j => .int (cell G W H (s + j) (t + k) : Nat) | u => u) (fun u hu => by
        obtain ⟨j, hj, rfl⟩ := List.getElem_of_mem hu
        obtain ⟨_, ej⟩ := range_at hj
        rw [ej, Int.zero_add]
        refine ⟨[some (gridT G), some (.int s), some (.int t), some (.int (W : Nat)), some (.int (H : Nat)), some (.int (k : Nat)), some (.int (j : Nat))], rfl, ?_⟩
        exact (call_ok (ts := [gridT G, .int (s + j), .int (t + k)]) rfl).trans (at_ok D _ _ h))
    rw [z]
    refine congrArg (fun l => Res.ok l h) ?_
    unfold rangeT
    rw [List.map_map]
    exact List.map_congr_left fun j _ => by simp [Function.comp]
  refine defM_rt rfl ((seq_nx s1).trans (ret_ok ?_))
  have z := mLc_map (mi := iRange1 (aCons (eVar 4) aNil)) (ws := [5]) (g := mgName 5) (e := eL (mLc (iRange1 (aCons (eVar 3) aNil)) [6] (mgName 6) bYes (eCall m_law_at (aCons (eVar 0) (aCons (eOp TL.bAdd (eVar 1) (eVar 6)) (aCons (eOp TL.bAdd (eVar 2) (eVar 5)) aNil)))))) (τ := [some (gridT G), some (.int s), some (.int t), some (.int (W : Nat)), some (.int (H : Nat)), none, none]) (h := h)
    (rd := fun _ => some (rangeT 0 H)) (ts := rangeT 0 H) (by simp only [iRange1, aCons, aNil, eVar, List.getElem?_cons_succ, List.getElem?_cons_zero]; rw [if_pos ⟨by omega, by omega⟩, Int.toNat_natCast]) rfl (by rw [range_len]; omega)
    (fun u => match u with | .int k => .lst ((List.range W).map fun (j : Nat) => T.int (cell G W H (s + (j : Int)) (t + k) : Nat)) | u => u) (fun u hu => by
      obtain ⟨k, hk, rfl⟩ := List.getElem_of_mem hu
      obtain ⟨_, ek⟩ := range_at hk
      rw [ek, Int.zero_add]
      exact ⟨[some (gridT G), some (.int s), some (.int t), some (.int (W : Nat)), some (.int (H : Nat)), some (.int (k : Nat)), none], rfl, eL_ok (inner k none)⟩)
  refine (eL_ok z).trans ?_
  refine congrArg (fun l => Res.ok (T.lst l) h) ?_
  unfold rangeT begun ofFn
  rw [List.map_map, List.map_map]
  refine List.map_congr_left fun k _ => ?_
  simp [Function.comp]
end
end K33
set_option Elab.async false
set_option linter.all false
set_option maxRecDepth 100000
set_option maxHeartbeats 400000
namespace K33
open PySem L2 TL KG
section
variable {G G' : List (List Nat)} {W H W' H' : Nat}
theorem Dim.ixRow' (D : Dim G W H) {α : Type} (f : List Nat → α) {y : Int} (h0 : 0 ≤ y) (h1 : y < H) : atI (G.map f) y = some (f (rowAt G H y)) := by
  have := D.ixRow f y
  rw [Int.emod_eq_of_lt h0 h1] at this
  exact this
theorem Dim.ixCell' (D : Dim G W H) {α : Type} (f : Nat → α) {x : Int} (y : Int) (h0 : 0 ≤ x) (h1 : x < W) : atI ((rowAt G H y).map f) x = some (f (cell G W H x y)) := by
  have := D.ixCell f x y
  rw [Int.emod_eq_of_lt h0 h1] at this
  exact this
def o1T : List T := [.int 0, .int 3, .int 6, .int 9, .int 2, .int 5, .int 8, .int 1, .int 4, .int 7]
def o2T : List T := [.int 0, .int 3, .int 2, .int 1, .int 6, .int 5, .int 4, .int 9, .int 8, .int 7]
theorem o1_at (d : Nat) (hd : d < 10) (h5 : d ≠ 5) : atI o1T (d : Int) = some (.int (oth1 d : Nat)) := ten (P := fun d => atI o1T (d : Int) = some (.int (oth1 d : Nat))) rfl rfl rfl rfl rfl rfl rfl rfl rfl d hd h5
theorem o2_at (d : Nat) (hd : d < 10) (h5 : d ≠ 5) : atI o2T (d : Int) = some (.int (oth2 d : Nat)) := ten (P := fun d => atI o2T (d : Int) = some (.int (oth2 d : Nat))) rfl rfl rfl rfl rfl rfl rfl rfl rfl d hd h5
theorem first_row (D : Dim G W H) : ∃ r0 : List Nat, atI (G.map fun r => T.lst (r.map fun d => .int (d : Nat))) 0 = some (.lst (r0.map fun d => .int (d : Nat))) ∧ (r0.map fun d => T.int (d : Nat)).length = W := by
  have er : (G.map fun r => T.lst (r.map fun d => .int (d : Nat))).length = H := by rw [List.length_map, D.len]
  have h0 := D.h0
  have this : (0 : Nat) < G.length := by rw [D.len]; exact D.h0
  refine ⟨G[0], ?_, by rw [List.length_map]; exact D.row _ (List.getElem_mem this)⟩
  rw [ix_nn (Int.le_refl _) (by rw [er]; omega), List.getElem?_map]
  show Option.map _ G[0]? = _
  rw [List.getElem?_eq_getElem this]
  rfl
theorem turned_ok (D : Dim G W H) (M : Mut G W H) (h : VH) : m_law_turned [gridT G] h = .ok (gridT (turned G W H)) h := by
  have h0 := D.h0
  have h1 := D.h1
  have w0 := D.w0
  have w1 := D.w1
  have er : (G.map fun r => T.lst (r.map fun d => .int (d : Nat))).length = H := by rw [List.length_map, D.len]
  obtain ⟨r0, er0, el0⟩ := first_row D
  have s1 : sAsg (eTup (aCons (eCall fLen (aCons (eOp TL.bIx (eVar 0) (eK (.int 0))) aNil)) (aCons (eCall fLen (aCons (eVar 0) aNil)) (aCons (eL (aLim (aCons (eK (.int 0)) (aCons (eK (.int 3)) (aCons (eK (.int 6)) (aCons (eK (.int 9)) (aCons (eK (.int 2)) (aCons (eK (.int 5)) (aCons (eK (.int 8)) (aCons (eK (.int 1)) (aCons (eK (.int 4)) (aCons (eK (.int 7)) aNil)))))))))))) aNil)))) (mgTup 3 (mgsCons (mgName 1) (mgsCons (mgName 2) (mgsCons (mgName 3) mgsNil)))) [some (gridT G), none, none, none, none, none] h = .nx [some (gridT G), some (.int (W : Nat)), some (.int (H : Nat)), some (.lst o1T), none, none] h := by
    unfold gridT o1T
    simp only [sAsg, eTup, aCons, aNil, eCall, eOp, eVar, eK, eL, aLim, List.getElem?_cons_succ, List.getElem?_cons_zero, TL.bIx, TL.listOf, er0, fLen, seqOf, er, el0, mgTup, mgsCons, mgName, mgsNil, List.length_cons, List.length_nil, Nat.reduceAdd, Nat.reduceLeDiff, if_true, List.set_cons_succ, List.set_cons_zero]
  have inner : ∀ (k : Nat) (hk : k < W) (c : Option T), mLc (iRange1 (aCons (eVar 2) aNil)) [5] (mgName 5) bYes (eOp TL.bIx (eVar 3) (eOp TL.bIx (eOp TL.bIx (eVar 0) (eOp TL.bSub (eOp TL.bSub (eVar 2) (eK (.int 1))) (eVar 5))) (eVar 4))) [some (gridT G), some (.int (W : Nat)), some (.int (H : Nat)), some (.lst o1T), some (.int (k : Nat)), c] h = .ok ((List.range H).map fun (j : Nat) => T.int (oth1 (cell G W H (k : Nat) ((H : Int) - 1 - (j : Int))) : Nat)) h := by
    intro k hk c
    have z := mLc_map (mi := iRange1 (aCons (eVar 2) aNil)) (ws := [5]) (g := mgName 5) (e := eOp TL.bIx (eVar 3) (eOp TL.bIx (eOp TL.bIx (eVar 0) (eOp TL.bSub (eOp TL.bSub (eVar 2) (eK (.int 1))) (eVar 5))) (eVar 4))) (τ := [some (gridT G), some (.int (W : Nat)), some (.int (H : Nat)), some (.lst o1T), some (.int (k : Nat)), c]) (h := h)
      (rd := fun _ => some (rangeT 0 H)) (ts := rangeT 0 H) (by simp only [iRange1, aCons, aNil, eVar, List.getElem?_cons_succ, List.getElem?_cons_zero]; rw [if_pos ⟨by omega, by omega⟩, Int.toNat_natCast]) rfl (by rw [range_len]; omega)
      (fun u => match u with | .int j => T.int (oth1 (cell G W H (k : Nat) ((H : Int) - 1 - j)) : Nat) | u => u) (fun u hu => by
        obtain ⟨j, hj, rfl⟩ := List.getElem_of_mem hu
        obtain ⟨hjH, ej⟩ := range_at hj
        rw [ej, Int.zero_add]
        refine ⟨[some (gridT G), some (.int (W : Nat)), some (.int (H : Nat)), some (.lst o1T), some (.int (k : Nat)), some (.int (j : Nat))], rfl, ?_⟩
        have i1 := D.ixRow' (fun r => T.lst (r.map fun d => .int (d : Nat))) (y := (H : Int) - 1 - (j : Int)) (by omega) (by omega)
        have i2 := D.ixCell' (fun d => T.int (d : Nat)) (x := (k : Int)) ((H : Int) - 1 - (j : Int)) (by omega) (by omega)
        have i3 := o1_at _ (M.lt (k : Nat) ((H : Int) - 1 - (j : Int))) (M.n5 (k : Nat) ((H : Int) - 1 - (j : Int)))
        unfold gridT
        simp only [eOp, eVar, eK, List.getElem?_cons_succ, List.getElem?_cons_zero, TL.bSub, bI0, TL.bIx, TL.listOf, i1, i2, i3])
    rw [z]
    refine congrArg (fun l => Res.ok l h) ?_
    unfold rangeT
    rw [List.map_map]
    exact List.map_congr_left fun j _ => by simp [Function.comp]
  refine defM_rt rfl ((seq_nx s1).trans (ret_ok ?_))
  have z := mLc_map (mi := iRange1 (aCons (eVar 1) aNil)) (ws := [4]) (g := mgName 4) (e := eL (mLc (iRange1 (aCons (eVar 2) aNil)) [5] (mgName 5) bYes (eOp TL.bIx (eVar 3) (eOp TL.bIx (eOp TL.bIx (eVar 0) (eOp TL.bSub (eOp TL.bSub (eVar 2) (eK (.int 1))) (eVar 5))) (eVar 4))))) (τ := [some (gridT G), some (.int (W : Nat)), some (.int (H : Nat)), some (.lst o1T), none, none]) (h := h)
    (rd := fun _ => some (rangeT 0 W)) (ts := rangeT 0 W) (by simp only [iRange1, aCons, aNil, eVar, List.getElem?_cons_succ, List.getElem?_cons_zero]; rw [if_pos ⟨by omega, by omega⟩, Int.toNat_natCast]) rfl (by rw [range_len]; omega)
    (fun u => match u with | .int k => .lst ((List.range H).map fun (j : Nat) => T.int (oth1 (cell G W H k ((H : Int) - 1 - (j : Int))) : Nat)) | u => u) (fun u hu => by
      obtain ⟨k, hk, rfl⟩ := List.getElem_of_mem hu
      obtain ⟨hkW, ek⟩ := range_at hk
      rw [ek, Int.zero_add]
      exact ⟨[some (gridT G), some (.int (W : Nat)), some (.int (H : Nat)), some (.lst o1T), some (.int (k : Nat)), none], rfl, eL_ok (inner k hkW none)⟩)
  refine (eL_ok z).trans ?_
  refine congrArg (fun l => Res.ok (T.lst l) h) ?_
  unfold rangeT turned ofFn
  rw [List.map_map, List.map_map]
  refine List.map_congr_left fun k _ => ?_
  simp [Function.comp]
theorem mirrored_ok (D : Dim G W H) (M : Mut G W H) (h : VH) : m_law_mirrored [gridT G] h = .ok (gridT (mirrored G)) h := by
  have A := mut_digs D M
  have h1 := D.h1
  have w1 := D.w1
  have inner : ∀ (r : List Nat) (hr : r ∈ G) (c : Option T), mLc (iSeqC (eRev (eVar 2))) [3] (mgName 3) bYes (eOp TL.bIx (eVar 1) (eVar 3)) [some (gridT G), some (.lst o2T), some (.lst (r.map fun d => .int (d : Nat))), c] h = .ok (r.reverse.map fun d => .int (oth2 d : Nat)) h := by
    intro r hr c
    have z := mLc_map (mi := iSeqC (eRev (eVar 2))) (ws := [3]) (g := mgName 3) (e := eOp TL.bIx (eVar 1) (eVar 3)) (τ := [some (gridT G), some (.lst o2T), some (.lst (r.map fun d => .int (d : Nat))), c]) (h := h)
      (rd := fun h => seqS h (.lst (r.map fun d => T.int (d : Nat)).reverse)) (ts := r.reverse.map fun d => T.int (d : Nat))
      (by simp [iSeqC, eRev, eVar, walkable, seqS, seqOf, TL.listOf]) (by simp [seqS, seqOf, TL.listOf]) (by rw [List.length_map, List.length_reverse, D.row r hr]; omega)
      (fun u => match u with | .int d => .int (oth2 d.toNat : Nat) | u => u) (fun u hu => by
        obtain ⟨d, hd, rfl⟩ := List.mem_map.mp hu
        have hd' : d ∈ r := by simpa using hd
        refine ⟨[some (gridT G), some (.lst o2T), some (.lst (r.map fun d => .int (d : Nat))), some (.int (d : Nat))], rfl, ?_⟩
        have i3 := o2_at d (A.lt r hr d hd') (A.n5 r hr d hd')
        simp only [eOp, eVar, List.getElem?_cons_succ, List.getElem?_cons_zero, TL.bIx, TL.listOf, i3, Int.toNat_natCast])
    rw [z, List.map_map]
    rfl
  have s1 : sSet 1 (eL (aLim (aCons (eK (.int 0)) (aCons (eK (.int 3)) (aCons (eK (.int 2)) (aCons (eK (.int 1)) (aCons (eK (.int 6)) (aCons (eK (.int 5)) (aCons (eK (.int 4)) (aCons (eK (.int 9)) (aCons (eK (.int 8)) (aCons (eK (.int 7)) aNil)))))))))))) [some (gridT G), none, none, none] h = .nx [some (gridT G), some (.lst o2T), none, none] h := by
    unfold o2T
    simp only [sSet, eL, aLim, aCons, aNil, eK, List.length_cons, List.length_nil, Nat.reduceAdd, Nat.reduceLeDiff, if_true, List.set_cons_succ, List.set_cons_zero]
  refine defM_rt rfl ((seq_nx s1).trans (ret_ok ?_))
  have z := mLc_map (mi := iSeqC (eVar 0)) (ws := [2]) (g := mgName 2) (e := eL (mLc (iSeqC (eRev (eVar 2))) [3] (mgName 3) bYes (eOp TL.bIx (eVar 1) (eVar 3)))) (τ := [some (gridT G), some (.lst o2T), none, none]) (h := h)
    (rd := fun h => seqS h (gridT G)) (ts := G.map fun r => T.lst (r.map fun d => .int (d : Nat))) (by simp [iSeqC, eVar, gridT, walkable, seqS, seqOf, TL.listOf]) (by simp [gridT, seqS, seqOf, TL.listOf]) (by rw [List.length_map, D.len]; omega)
    (fun u => match u with | .lst ts => .lst (ts.reverse.map fun v => match v with | .int d => .int (oth2 d.toNat : Nat) | v => v) | u => u) (fun u hu => by
      obtain ⟨r, hr, rfl⟩ := List.mem_map.mp hu
      refine ⟨[some (gridT G), some (.lst o2T), some (.lst (r.map fun d => .int (d : Nat))), none], rfl, (eL_ok (inner r hr none)).trans ?_⟩
      refine congrArg (fun l => Res.ok (T.lst l) h) ?_
      rw [← List.map_reverse, List.map_map]
      rfl)
  refine (eL_ok z).trans ?_
  refine congrArg (fun l => Res.ok (T.lst l) h) ?_
  unfold mirrored
  rw [List.map_map, List.map_map]
  refine List.map_congr_left fun r _ => ?_
  simp only [Function.comp, ← List.map_reverse, List.map_map]
  rfl
/-- [row + row for row in grid] -/
theorem wide_ok (D : Dim G W H) (g : Option T → TS_) (hg : ∀ c, (g c)[3]? = some (some (gridT G)) ∧ wipeT (g c) [8] = g none ∧ (∀ t h, mgName 8 t (g none) h = .ok (g (some t)) h) ∧ ∀ t, (g (some t))[8]? = some (some t)) (c : Option T) (h : VH) :
    mLc (iSeqC (eVar 3)) [8] (mgName 8) bYes (eOp TL.bAdd (eVar 8) (eVar 8)) (g c) h = .ok (((G.map fun r => r ++ r)).map fun r => T.lst (r.map fun d => .int (d : Nat))) h := by
  have h1 := D.h1
  have w1 := D.w1
  obtain ⟨g1, g2, g3, g4⟩ := hg c
  have z := mLc_map (mi := iSeqC (eVar 3)) (ws := [8]) (g := mgName 8) (e := eOp TL.bAdd (eVar 8) (eVar 8)) (τ := g c) (h := h) (rd := fun h => seqS h (gridT G)) (ts := G.map fun r => T.lst (r.map fun d => .int (d : Nat)))
    (by simp [iSeqC, eVar, g1, gridT, walkable, seqS, seqOf, TL.listOf]) (by simp [gridT, seqS, seqOf, TL.listOf]) (by rw [List.length_map, D.len]; omega)
    (fun u => match u with | .lst ts => .lst (ts ++ ts) | u => u) (fun u hu => by
      obtain ⟨r, hr, rfl⟩ := List.mem_map.mp hu
      refine ⟨g (some (.lst (r.map fun d => .int (d : Nat)))), by rw [g2]; exact g3 _ _, ?_⟩
      have e := D.row r hr
      simp only [eOp, eVar, g4, TL.bAdd, TL.listOf, List.length_map]
      rw [if_pos (by rw [e]; omega)])
  rw [z, List.map_map, List.map_map]
  refine congrArg (fun l => Res.ok l h) (List.map_congr_left fun r _ => ?_)
  simp only [Function.comp, List.map_append]
theorem high_ok (D : Dim G W H) (h : VH) : TL.bAdd (gridT G) (gridT G) h = .ok (gridT (G ++ G)) h := by
  unfold gridT
  have e := D.len
  have h1 := D.h1
  simp only [TL.bAdd, TL.listOf, List.length_map, List.map_append]
  rw [if_pos (by rw [e]; omega)]
end
end K33
set_option Elab.async false
set_option linter.all false
set_option maxRecDepth 100000
set_option maxHeartbeats 400000
namespace K33
open PySem L2 TL KG
section
variable {G G' : List (List Nat)} {W H W' H' : Nat}
def put (G : List (List Nat)) (x y d : Nat) : List (List Nat) := G.set y ((G.getD y []).set x d)
theorem put_dim (D : Dim G W H) {x y d : Nat} (hy : y < H) : Dim (put G x y d) W H := by
  refine ⟨by simp [put, D.len], D.h0, D.h1, fun r hr => ?_, D.w0, D.w1⟩
  have hg : G.getD y [] ∈ G := by
    rw [List.getD_eq_getElem?_getD, List.getElem?_eq_getElem (by rw [D.len]; exact hy)]
    exact List.getElem_mem _
  rcases List.mem_or_eq_of_mem_set hr with z | rfl
  · exact D.row r z
  · rw [List.length_set]
    exact D.row _ hg
theorem put_cell (D : Dim G W H) {x y d : Nat} (hx : x < W) (hy : y < H) (s t : Int) : cell (put G x y d) W H s t = if s % W = x ∧ t % H = y then d else cell G W H s t := by
  have a := mod_lt' t D.h0
  have b := mod_lt' s D.w0
  have a0 := Int.emod_nonneg t (b := (H : Int)) (by omega)
  have b0 := Int.emod_nonneg s (b := (W : Int)) (by omega)
  have hl : G.length = H := D.len
  unfold cell rowAt put
  by_cases q : t % (H : Int) = (y : Int)
  · have hg : G.getD y [] ∈ G := by
      rw [List.getD_eq_getElem?_getD, List.getElem?_eq_getElem (by rw [D.len]; exact hy)]
      exact List.getElem_mem _
    have hr := D.row _ hg
    have e1 : (t % (H : Int)).toNat = y := by omega
    rw [e1]
    have e2 : (G.set y ((G.getD y []).set x d)).getD y [] = (G.getD y []).set x d := by
      rw [List.getD_eq_getElem?_getD, List.getElem?_set_self (by rw [hl]; exact hy)]
      rfl
    rw [e2]
    by_cases p : s % (W : Int) = (x : Int)
    · rw [if_pos ⟨p, q⟩]
      have e3 : (s % (W : Int)).toNat = x := by omega
      rw [e3, List.getD_eq_getElem?_getD, List.getElem?_set_self (by rw [hr]; exact hx)]
      rfl
    · rw [if_neg fun z => p z.1]
      rw [List.getD_eq_getElem?_getD, List.getElem?_set_ne (by omega), ← List.getD_eq_getElem?_getD]
  · rw [if_neg fun z => q z.2]
    have e2 : (G.set y ((G.getD y []).set x d)).getD (t % (H : Int)).toNat [] = G.getD (t % (H : Int)).toNat [] := by
      rw [List.getD_eq_getElem?_getD, List.getElem?_set_ne (by omega), ← List.getD_eq_getElem?_getD]
    rw [e2]
def IsW (d : Nat) : Prop := d = 6 ∨ d = 8 ∨ d = 9 ∨ d = 7
theorem put_mut (D : Dim G W H) (M : Mut G W H) {x y x' y' d : Nat} (hd : IsW d) (hx : x < W) (hy : y < H) (ex : ((x : Int) + sx d) % W = x') (ey : ((y : Int) + sy d) % H = y') (ne : ¬ (x' = x ∧ y' = y)) (c0 : cell G W H x y = 0) (c1 : cell G W H x' y' = 0) : Mut (put (put G x y d) x' y' (10 - d)) W H := by
  have w0 := D.w0
  have h0 := D.h0
  have hx' : x' < W := by have := Int.emod_lt_of_pos ((x : Int) + sx d) (b := (W : Int)) (by omega); omega
  have hy' : y' < H := by have := Int.emod_lt_of_pos ((y : Int) + sy d) (b := (H : Int)) (by omega); omega
  have D1 := put_dim (x := x) (d := d) D hy
  have pc : ∀ s t, cell (put (put G x y d) x' y' (10 - d)) W H s t = if s % W = x' ∧ t % H = y' then 10 - d else if s % W = x ∧ t % H = y then d else cell G W H s t := fun s t => by
    rw [put_cell D1 hx' hy', put_cell D hx hy]
  have s1 : sx (10 - d) = - sx d ∧ sy (10 - d) = - sy d := by rcases hd with rfl | rfl | rfl | rfl <;> decide
  have bx : ((x' : Int) + sx (10 - d)) % W = x := by
    rw [s1.1, ← ex, Int.emod_add_emod, Int.add_neg_cancel_right, Int.emod_eq_of_lt (by omega) (by omega)]
  have bY : ((y' : Int) + sy (10 - d)) % H = y := by
    rw [s1.2, ← ey, Int.emod_add_emod, Int.add_neg_cancel_right, Int.emod_eq_of_lt (by omega) (by omega)]
  have cg : ∀ s t, s % (W : Int) = x → t % (H : Int) = y → cell G W H s t = 0 := fun s t a b => by
    rw [← c0]
    apply cell_congr
    · rw [a, Int.emod_eq_of_lt (by omega) (by omega)]
    · rw [b, Int.emod_eq_of_lt (by omega) (by omega)]
  have cg' : ∀ s t, s % (W : Int) = x' → t % (H : Int) = y' → cell G W H s t = 0 := fun s t a b => by
    rw [← c1]
    apply cell_congr
    · rw [a, Int.emod_eq_of_lt (by omega) (by omega)]
    · rw [b, Int.emod_eq_of_lt (by omega) (by omega)]
  refine ⟨fun s t => ?_, fun s t => ?_, fun s t nz => ?_⟩
  · rw [pc]
    have := M.lt s t
    unfold IsW at hd
    split
    · omega
    · split <;> omega
  · rw [pc]
    have := M.n5 s t
    unfold IsW at hd
    split
    · omega
    · split <;> omega
  · rw [pc s t] at nz ⊢
    by_cases q : s % (W : Int) = x' ∧ t % (H : Int) = y'
    · rw [if_pos q]
      have e1 : (s + sx (10 - d)) % W = x := by rw [← bx, ← q.1, Int.emod_add_emod]
      have e2 : (t + sy (10 - d)) % H = y := by rw [← bY, ← q.2, Int.emod_add_emod]
      rw [pc, if_neg (by rw [e1, e2]; intro z; exact ne ⟨by omega, by omega⟩), if_pos ⟨e1, e2⟩]
      unfold IsW at hd
      omega
    · rw [if_neg q] at nz ⊢
      by_cases p : s % (W : Int) = x ∧ t % (H : Int) = y
      · rw [if_pos p]
        have e1 : (s + sx d) % W = x' := by rw [← ex, ← p.1, Int.emod_add_emod]
        have e2 : (t + sy d) % H = y' := by rw [← ey, ← p.2, Int.emod_add_emod]
        rw [pc, if_pos ⟨e1, e2⟩]
        unfold IsW at hd
        omega
      · rw [if_neg p] at nz ⊢
        have m := M.mate s t nz
        have l := M.lt s t
        rw [pc, if_neg (fun z => by have := cg' _ _ z.1 z.2; omega), if_neg (fun z => by have := cg _ _ z.1 z.2; omega)]
        exact m
theorem zero_dim (w0 : 0 < W) (w1 : W ≤ 12) (h0 : 0 < H) (h1 : H ≤ 12) : Dim (List.replicate H (List.replicate W 0)) W H :=
  ⟨by simp, h0, h1, fun r hr => by rw [(List.mem_replicate.mp hr).2]; simp, w0, w1⟩
theorem zero_cell (w0 : 0 < W) (h0 : 0 < H) (x y : Int) : cell (List.replicate H (List.replicate W 0)) W H x y = 0 := by
  unfold cell rowAt
  have a := mod_lt' y h0
  have b := mod_lt' x w0
  rw [List.getD_eq_getElem?_getD, List.getD_eq_getElem?_getD, List.getElem?_replicate, if_pos a, Option.getD_some, List.getElem?_replicate, if_pos b]
  rfl
theorem zero_mut (w0 : 0 < W) (h0 : 0 < H) : Mut (List.replicate H (List.replicate W 0)) W H :=
  ⟨fun x y => by rw [zero_cell w0 h0]; omega, fun x y => by rw [zero_cell w0 h0]; omega, fun x y z => (z (zero_cell w0 h0 x y)).elim⟩
def AllP (h : VH) : Prop := ∀ o ∈ h, IsP o
theorem AllP.low {h : VH} (a : AllP h) (n : Nat) : h.all (VO.lowR n) = true := by
  rw [List.all_eq_true]
  intro o ho
  obtain ⟨x, y, z, rfl, _⟩ := a o ho
  rfl
theorem AllP.pu {h : VH} (a : AllP h) {n : Nat} (hn : n < h.length) : Pu n h := ⟨h[n], List.getElem?_eq_getElem hn, a _ (List.getElem_mem hn)⟩
theorem AllP.set {h : VH} (a : AllP h) {n : Nat} {o : VO} (ho : IsP o) : AllP (h.set n o) := fun p hp => by
  rcases List.mem_or_eq_of_mem_set hp with z | rfl
  · exact a p z
  · exact ho
theorem roll_on {n : Nat} {h R : VH} {k : Int} (a : AllP h) (hn : n < h.length) (hk : 0 < k) (hk2 : k < 1000000) : ∃ (r : Nat) (h' : VH), m_law_roll [.ref n, .int k] (h ++ R) = .ok (.int (r : Nat)) (h' ++ R) ∧ (r : Int) < k ∧ AllP h' ∧ h'.length = h.length := by
  have hp : Pu n (h ++ R) := by
    obtain ⟨o, e, i⟩ := a.pu hn
    exact ⟨o, by rw [List.getElem?_append_left hn]; exact e, i⟩
  obtain ⟨r, o, e, r0, r1, io⟩ := roll_ok hp hk hk2
  refine ⟨r.toNat, h.set n o, ?_, by omega, a.set io, List.length_set⟩
  rw [e, List.set_append_left _ _ hn]
  refine congrArg (fun i => Res.ok (T.int i) _) ?_
  omega
theorem pick_ok {n : Nat} {h R : VH} (a : AllP h) (hn : n < h.length) : ∃ (d : Nat) (h' : VH), m_law_pick [.ref n, .lst [.int 6, .int 6, .int 8, .int 9, .int 7]] (h ++ R) = .ok (.int (d : Nat)) (h' ++ R) ∧ IsW d ∧ AllP h' ∧ h'.length = h.length := by
  obtain ⟨r, h', e, r1, a', l'⟩ := roll_on (R := R) (k := 5) a hn (by omega) (by omega)
  have key : ∀ d : Nat, TL.bIx (.lst [.int 6, .int 6, .int 8, .int 9, .int 7]) (.int (r : Nat)) (h' ++ R) = .ok (.int (d : Nat)) (h' ++ R) → m_law_pick [.ref n, .lst [.int 6, .int 6, .int 8, .int 9, .int 7]] (h ++ R) = .ok (.int (d : Nat)) (h' ++ R) := by
    intro d hd
    refine defM_rt rfl (ret_ok ?_)
    refine (op_ok (t := .lst [.int 6, .int 6, .int 8, .int 9, .int 7]) (u := .int (r : Nat)) (h1 := h ++ R) (h2 := h' ++ R) rfl ?_).trans hd
    exact (call_ok (ts := [.ref n, .int 5]) rfl).trans e
  have : r = 0 ∨ r = 1 ∨ r = 2 ∨ r = 3 ∨ r = 4 := by omega
  rcases this with rfl | rfl | rfl | rfl | rfl
  · exact ⟨6, h', key 6 rfl, .inl rfl, a', l'⟩
  · exact ⟨6, h', key 6 rfl, .inl rfl, a', l'⟩
  · exact ⟨8, h', key 8 rfl, .inr (.inl rfl), a', l'⟩
  · exact ⟨9, h', key 9 rfl, .inr (.inr (.inl rfl)), a', l'⟩
  · exact ⟨7, h', key 7 rfl, .inr (.inr (.inr rfl)), a', l'⟩
theorem shift_ok {d : Nat} (hd : IsW d) (h : VH) : m_law_shift [.int (d : Nat)] h = .ok (.tup [.int (sx d), .int (sy d)]) h := by
  rcases hd with rfl | rfl | rfl | rfl <;> rfl
end
end K33
set_option Elab.async false
set_option linter.all false
set_option maxRecDepth 100000
set_option maxHeartbeats 400000
namespace K33
open PySem L2 TL KG
section
variable {G G' : List (List Nat)} {W H W' H' : Nat}
theorem lcL_fresh {rd : VH → Option (List T)} {g : MG} {e : ME} {τ : TS_} {ts : List T} (hrd : ∀ h, rd h = some ts) {xs : List T} (hb : ∀ t ∈ ts, ∀ h, ∃ τ1, g t τ h = .ok τ1 h ∧ e τ1 h = .ok (.ref h.length) (h ++ [.lst xs])) :
    ∀ (k i : Nat) (acc : List T) (h : VH), i + k = ts.length → lcL rd g bYes e τ ts.length k i acc h = .ok (acc ++ (List.range k).map fun j => T.ref (h.length + j)) (h ++ List.replicate k (.lst xs)) := by
  intro k
  induction k with
  | zero =>
    intro i acc h hi
    simp [lcL, hrd]
  | succ k ih =>
    intro i acc h hi
    have hlt : i < ts.length := by omega
    have e1 : ts[i]? = some ts[i] := List.getElem?_eq_getElem hlt
    obtain ⟨τ1, h1, h3⟩ := hb ts[i] (List.getElem_mem hlt) h
    have z := ih (i + 1) (acc ++ [.ref h.length]) (h ++ [.lst xs]) (by omega)
    have h2 : bYes τ1 h = .ok true h := rfl
    simp only [lcL, hrd, e1, h1, h2, h3, if_true]
    rw [z, List.range_succ_eq_map, List.map_cons, List.map_map, List.append_assoc, List.append_assoc, List.replicate_succ]
    simp only [List.length_append, List.length_cons, List.length_nil, List.singleton_append, Nat.add_zero]
    refine congrArg (fun l => Res.ok (acc ++ T.ref h.length :: l) _) ?_
    refine List.map_congr_left fun j _ => ?_
    simp only [Function.comp]
    refine congrArg T.ref ?_
    omega
def rowsV (G : List (List Nat)) : VH := G.map fun r => .lst (r.map fun d => T.int (d : Nat))
def refsT (n H : Nat) : T := .lst ((List.range H).map fun j => .ref (n + j))
theorem rowsV_at (D : Dim G W H) {h : VH} {y : Nat} (hy : y < H) : (h ++ rowsV G)[h.length + y]? = some (.lst ((G.getD y []).map fun d => T.int (d : Nat))) := by
  rw [List.getElem?_append_right (by omega), Nat.add_sub_cancel_left]
  unfold rowsV
  rw [List.getElem?_map, List.getElem?_eq_getElem (by rw [D.len]; exact hy), List.getD_eq_getElem?_getD, List.getElem?_eq_getElem (by rw [D.len]; exact hy)]
  rfl
theorem refs_at (n : Nat) {y : Nat} (hy : y < H) (h : VH) : TL.bIx (refsT n H) (.int (y : Nat)) h = .ok (.ref (n + y)) h := by
  have e : atI ((List.range H).map fun j => T.ref (n + j)) ((y : Nat) : Int) = some (.ref (n + y)) := by
    rw [ix_nn (by omega) (by simp; omega), List.getElem?_map, Int.toNat_natCast, List.getElem?_range hy]
    rfl
  unfold refsT
  simp only [TL.bIx, TL.listOf, e]
theorem cell_at (D : Dim G W H) {h : VH} {x y : Nat} (hx : x < W) (hy : y < H) : TL.bIx (.ref (h.length + y)) (.int (x : Nat)) (h ++ rowsV G) = .ok (.int (cell G W H x y : Nat)) (h ++ rowsV G) := by
  have e1 := rowsV_at D (h := h) hy
  have hr : G.getD y [] ∈ G := by
    rw [List.getD_eq_getElem?_getD, List.getElem?_eq_getElem (by rw [D.len]; exact hy)]
    exact List.getElem_mem _
  have hl := D.row _ hr
  have e2 : atI ((G.getD y []).map fun d => T.int (d : Nat)) ((x : Nat) : Int) = some (.int (cell G W H x y : Nat)) := by
    rw [ix_nn (by omega) (by rw [List.length_map, hl]; omega), List.getElem?_map, Int.toNat_natCast, cell_nat D hy hx, List.getD_eq_getElem?_getD (l := G.getD y []), List.getElem?_eq_getElem (by rw [hl]; exact hx)]
    rfl
  simp only [TL.bIx, TL.listOf, e1, e2]
theorem set_at (D : Dim G W H) {h : VH} {x y d : Nat} (hx : x < W) (hy : y < H) : bSetL (.ref (h.length + y)) (.int (x : Nat)) (.int (d : Nat)) (h ++ rowsV G) = .ok () (h ++ rowsV (put G x y d)) := by
  have e1 := rowsV_at D (h := h) hy
  have hr : G.getD y [] ∈ G := by
    rw [List.getD_eq_getElem?_getD, List.getElem?_eq_getElem (by rw [D.len]; exact hy)]
    exact List.getElem_mem _
  have hl := D.row _ hr
  have e2 : ixN ((G.getD y []).map fun d => T.int (d : Nat)).length ((x : Nat) : Int) = some x := by
    unfold ixN
    rw [if_pos (by omega), List.length_map, hl, if_pos (by omega), Int.toNat_natCast]
  unfold bSetL
  simp only [e1, e2]
  rw [List.set_append_right _ _ (by omega), Nat.add_sub_cancel_left]
  unfold rowsV put
  rw [List.map_set, List.map_set]
theorem mod_ix (x : Int) {n : Nat} (h : 0 < n) : ∃ m : Nat, x % (n : Int) = (m : Nat) ∧ m < n := by
  have a := Int.emod_nonneg x (b := (n : Int)) (by omega)
  have b := Int.emod_lt_of_pos x (b := (n : Int)) (by omega)
  exact ⟨(x % (n : Int)).toNat, by omega, by omega⟩
theorem bNe_pair (a b c d : Int) (h : VH) : bNe (.tup [.int a, .int b]) (.tup [.int c, .int d]) h = .ok (.bl (!decide (a = c ∧ b = d))) h := by
  have e : ∀ p q : Int, T.dat h 10 (.tup [.int p, .int q]) = some (.tuple [.int p, .int q]) := fun p q => rfl
  unfold bNe bEqG
  rw [e, e]
  simp only [PyData.eqv]
  refine congrArg (fun z => Res.ok (T.bl z) h) ?_
  by_cases p : a = c <;> by_cases q : b = d <;> simp [p, q, PyData.eqvAll, PyData.eqv]
theorem bEq_zero (d : Nat) (h : VH) : TL.bEq (.int (d : Nat)) (.int 0) h = .ok (.bl (decide (d = 0))) h := by
  unfold TL.bEq bEqG
  simp only [dat_int, PyData.eqv]
  refine congrArg (fun z => Res.ok (T.bl z) h) ?_
  by_cases p : d = 0 <;> simp [p]
end
end K33
set_option Elab.async false
set_option linter.all false
set_option maxRecDepth 100000
set_option maxHeartbeats 400000
namespace K33
open PySem L2 TL KG
section
variable {G G' : List (List Nat)} {W H W' H' : Nat}
def gb1 : MS := (sPar3 7 8 9 (aCons (eCall m_law_roll (aCons (eVar 0) (aCons (eVar 2) aNil))) (aCons (eCall m_law_roll (aCons (eVar 0) (aCons (eVar 3) aNil))) (aCons (eCall m_law_pick (aCons (eVar 0) (aCons (eL (aLim (aCons (eK (.int 6)) (aCons (eK (.int 6)) (aCons (eK (.int 8)) (aCons (eK (.int 9)) (aCons (eK (.int 7)) aNil))))))) aNil))) aNil))))
def gb2 : MS := (sSet 10 (eCall m_law_shift (aCons (eVar 9) aNil)))
def gb3 : MS := (sSet 11 (eTup (aCons (eOp bMod (eCall fInt (aCons (eOp bAdd (eVar 7) (eOp bIx (eVar 10) (eK (.int 0)))) aNil)) (eVar 2)) (aCons (eOp bMod (eCall fInt (aCons (eOp bAdd (eVar 8) (eOp bIx (eVar 10) (eK (.int 1)))) aNil)) (eVar 3)) aNil))))
def gc : MB := (bAnd (bTest (eOp bNe (eVar 11) (eTup (aCons (eVar 7) (aCons (eVar 8) aNil))))) (bAnd (bTest (eOp bEq (eOp bIx (eOp bIx (eVar 4) (eVar 8)) (eVar 7)) (eK (.int 0)))) (bTest (eOp bEq (eOp bIx (eOp bIx (eVar 4) (eOp bIx (eVar 11) (eK (.int 1)))) (eOp bIx (eVar 11) (eK (.int 0)))) (eK (.int 0))))))
def gs1 : MS := (sAsg (eVar 9) (mgSub bSetL (eOp bIx (eVar 4) (eVar 8)) (eVar 7)))
def gs2 : MS := (sAsg (eOp bSub (eK (.int 10)) (eVar 9)) (mgSub bSetL (eOp bIx (eVar 4) (eOp bIx (eVar 11) (eK (.int 1)))) (eOp bIx (eVar 11) (eK (.int 0)))))
def gbody : MS := sSeq gb1 (sSeq gb2 (sSeq gb3 (sIf gc (sSeq gs1 gs2) sNil)))
def ga1 : MS := (sAsg (eTup (aCons (eOp bAdd (eK (.int 1)) (eCall m_law_roll (aCons (eVar 0) (aCons (eVar 1) aNil)))) (aCons (eOp bAdd (eK (.int 1)) (eCall m_law_roll (aCons (eVar 0) (aCons (eVar 1) aNil)))) aNil))) (mgTup 2 (mgsCons (mgName 2) (mgsCons (mgName 3) mgsNil))))
def ga2 : MS := (sSet 4 (eL (mLc (iRange1 (aCons (eVar 3) aNil)) [5] (mgName 5) bYes (eH (mMul (eL (aLim (aCons (eK (.int 0)) aNil))) (eVar 2))))))
theorem grid_eq : s_law_grid = sSeq ga1 (sSeq ga2 (sSeq (sFor (iRange1 (aCons (eOp bAdd (eK (.int 2)) (eOp bMul (eVar 2) (eVar 3))) aNil)) (mgName 6) gbody) (sRet (eVar 4)))) := rfl
theorem fInt_int (i : Int) (h : VH) : fInt [.int i] h = .ok (.int i) h := rfl
def gst (n W H L : Nat) (a b c d e f g : Option T) : TS_ := [some (.ref n), some (.int 5), some (.int (W : Nat)), some (.int (H : Nat)), some (refsT L H), a, b, c, d, e, f, g]
theorem gb_ok (D : Dim G W H) (M : Mut G W H) {n : Nat} {h : VH} (A : AllP h) (hn : n < h.length) (a b c d e f g : Option T) : ∃ (h' : VH) (G' : List (List Nat)) (c' d' e' f' g' : Option T), gbody (gst n W H h.length a b c d e f g) (h ++ rowsV G) = .nx (gst n W H h.length a b c' d' e' f' g') (h' ++ rowsV G') ∧ AllP h' ∧ h'.length = h.length ∧ Dim G' W H ∧ Mut G' W H := by
  have w0 := D.w0
  have w1 := D.w1
  have h0 := D.h0
  have h1 := D.h1
  obtain ⟨x, ha, r1, hx, A1, l1⟩ := roll_on (R := rowsV G) (k := W) A hn (by omega) (by omega)
  obtain ⟨y, hb, r2, hy, A2, l2⟩ := roll_on (R := rowsV G) (k := H) A1 (by rw [l1]; exact hn) (by omega) (by omega)
  obtain ⟨w, hc, r3, iw, A3, l3⟩ := pick_ok (R := rowsV G) A2 (by rw [l2, l1]; exact hn)
  have r4 := shift_ok iw (hc ++ rowsV G)
  have L : hc.length = h.length := by rw [l3, l2, l1]
  obtain ⟨x', ex, hx'⟩ := mod_ix ((x : Int) + sx w) w0
  obtain ⟨y', ey, hy'⟩ := mod_ix ((y : Int) + sy w) h0
  have hx2 : x < W := by omega
  have hy2 : y < H := by omega
  have s1 : gb1 (gst n W H h.length a b c d e f g) (h ++ rowsV G) = .nx (gst n W H h.length a b (some (.int (x : Nat))) (some (.int (y : Nat))) (some (.int (w : Nat))) f g) (hc ++ rowsV G) := by
    simp only [gb1, gst, sPar3, aCons, aNil, eCall, eVar, eL, aLim, eK, List.getElem?_cons_succ, List.getElem?_cons_zero, r1, r2, List.length_cons, List.length_nil, Nat.reduceAdd, Nat.reduceLeDiff, if_true, r3, List.set_cons_succ, List.set_cons_zero]
  have s2 : gb2 (gst n W H h.length a b (some (.int (x : Nat))) (some (.int (y : Nat))) (some (.int (w : Nat))) f g) (hc ++ rowsV G) = .nx (gst n W H h.length a b (some (.int (x : Nat))) (some (.int (y : Nat))) (some (.int (w : Nat))) (some (.tup [.int (sx w), .int (sy w)])) g) (hc ++ rowsV G) := by
    simp only [gb2, gst, sSet, aCons, aNil, eCall, eVar, List.getElem?_cons_succ, List.getElem?_cons_zero, r4, List.set_cons_succ, List.set_cons_zero]
  have i0 : ∀ (p q : Int) (hh : VH), TL.bIx (.tup [.int p, .int q]) (.int 0) hh = .ok (.int p) hh := fun p q hh => rfl
  have i1 : ∀ (p q : Int) (hh : VH), TL.bIx (.tup [.int p, .int q]) (.int 1) hh = .ok (.int q) hh := fun p q hh => rfl
  have s3 : gb3 (gst n W H h.length a b (some (.int (x : Nat))) (some (.int (y : Nat))) (some (.int (w : Nat))) (some (.tup [.int (sx w), .int (sy w)])) g) (hc ++ rowsV G) = .nx (gst n W H h.length a b (some (.int (x : Nat))) (some (.int (y : Nat))) (some (.int (w : Nat))) (some (.tup [.int (sx w), .int (sy w)])) (some (.tup [.int (x' : Nat), .int (y' : Nat)]))) (hc ++ rowsV G) := by
    have wz : ¬ (W : Int) = 0 := by omega
    have hz : ¬ (H : Int) = 0 := by omega
    simp [gb3, gst, sSet, eTup, eOp, eK, aCons, aNil, eCall, eVar, i0, i1, TL.bAdd, bI0, bI, TL.bMod, fInt_int, ex, ey, wz, hz, w0, h0]
  have fin : gbody (gst n W H h.length a b c d e f g) (h ++ rowsV G) = sIf gc (sSeq gs1 gs2) sNil (gst n W H h.length a b (some (.int (x : Nat))) (some (.int (y : Nat))) (some (.int (w : Nat))) (some (.tup [.int (sx w), .int (sy w)])) (some (.tup [.int (x' : Nat), .int (y' : Nat)]))) (hc ++ rowsV G) :=
    (seq_nx s1).trans ((seq_nx s2).trans (seq_nx s3))
  have j1 : ∀ hh, TL.bIx (refsT h.length H) (.int (y : Nat)) hh = .ok (.ref (hc.length + y)) hh := fun hh => by rw [L]; exact refs_at h.length hy2 hh
  have j2 : ∀ hh, TL.bIx (refsT h.length H) (.int (y' : Nat)) hh = .ok (.ref (hc.length + y')) hh := fun hh => by rw [L]; exact refs_at h.length hy' hh
  have c1 := cell_at D (h := hc) hx2 hy2
  have c2 := cell_at D (h := hc) hx' hy'
  have ec : gc (gst n W H h.length a b (some (.int (x : Nat))) (some (.int (y : Nat))) (some (.int (w : Nat))) (some (.tup [.int (sx w), .int (sy w)])) (some (.tup [.int (x' : Nat), .int (y' : Nat)]))) (hc ++ rowsV G) = .ok (!decide ((x' : Int) = x ∧ (y' : Int) = y) && (decide (cell G W H x y = 0) && decide (cell G W H x' y' = 0))) (hc ++ rowsV G) := by
    cases q1 : decide ((x' : Int) = x ∧ (y' : Int) = y) <;> cases q2 : decide (cell G W H x y = 0) <;> cases q3 : decide (cell G W H x' y' = 0) <;>
      simp only [gc, gst, TL.bAnd, bTest, eOp, eTup, eK, aCons, aNil, eVar, List.getElem?_cons_succ, List.getElem?_cons_zero, bNe_pair, q1, q2, q3, i0, i1, j1, j2, c1, c2, bEq_zero, List.length_cons, List.length_nil, Nat.reduceAdd, Nat.reduceLeDiff, if_true, Bool.not_true, Bool.not_false, Bool.and_true, Bool.and_false, Bool.false_and, Bool.true_and]
  rw [fin]
  by_cases q : (!decide ((x' : Int) = x ∧ (y' : Int) = y) && (decide (cell G W H x y = 0) && decide (cell G W H x' y' = 0))) = true
  · rw [q] at ec
    rw [if_t ec]
    simp only [Bool.and_eq_true, Bool.not_eq_true', decide_eq_false_iff_not, decide_eq_true_eq] at q
    have D1 := put_dim (x := x) (d := w) D hy2
    have t1 := set_at D (h := hc) (x := x) (y := y) (d := w) hx2 hy2
    have t2 := set_at D1 (h := hc) (x := x') (y := y') (d := 10 - w) hx' hy'
    have e10 : (10 : Int) - (w : Int) = ((10 - w : Nat) : Int) := by unfold IsW at iw; omega
    refine ⟨hc, put (put G x y w) x' y' (10 - w), some (.int (x : Nat)), some (.int (y : Nat)), some (.int (w : Nat)), some (.tup [.int (sx w), .int (sy w)]), some (.tup [.int (x' : Nat), .int (y' : Nat)]), ?_, A3, L, put_dim D1 hy', put_mut D M iw hx2 hy2 ex ey (fun z => q.1 ⟨by omega, by omega⟩) q.2.1 q.2.2⟩
    have u1 : gs1 (gst n W H h.length a b (some (.int (x : Nat))) (some (.int (y : Nat))) (some (.int (w : Nat))) (some (.tup [.int (sx w), .int (sy w)])) (some (.tup [.int (x' : Nat), .int (y' : Nat)]))) (hc ++ rowsV G) = .nx (gst n W H h.length a b (some (.int (x : Nat))) (some (.int (y : Nat))) (some (.int (w : Nat))) (some (.tup [.int (sx w), .int (sy w)])) (some (.tup [.int (x' : Nat), .int (y' : Nat)]))) (hc ++ rowsV (put G x y w)) := by
      simp only [gs1, gst, sAsg, mgSub, eOp, eVar, List.getElem?_cons_succ, List.getElem?_cons_zero, j1, t1]
    have u2 : gs2 (gst n W H h.length a b (some (.int (x : Nat))) (some (.int (y : Nat))) (some (.int (w : Nat))) (some (.tup [.int (sx w), .int (sy w)])) (some (.tup [.int (x' : Nat), .int (y' : Nat)]))) (hc ++ rowsV (put G x y w)) = .nx (gst n W H h.length a b (some (.int (x : Nat))) (some (.int (y : Nat))) (some (.int (w : Nat))) (some (.tup [.int (sx w), .int (sy w)])) (some (.tup [.int (x' : Nat), .int (y' : Nat)]))) (hc ++ rowsV (put (put G x y w) x' y' (10 - w))) := by
      simp only [gs2, gst, sAsg, mgSub, eOp, eVar, eK, List.getElem?_cons_succ, List.getElem?_cons_zero, TL.bSub, bI0, i0, i1, j2, e10, t2]
    exact (seq_nx u1).trans u2
  · rw [Bool.not_eq_true] at q
    rw [q] at ec
    rw [if_f ec]
    exact ⟨hc, G, some (.int (x : Nat)), some (.int (y : Nat)), some (.int (w : Nat)), some (.tup [.int (sx w), .int (sy w)]), some (.tup [.int (x' : Nat), .int (y' : Nat)]), rfl, A3, L, D, M⟩
end
end K33
set_option Elab.async false
set_option linter.all false
set_option maxRecDepth 100000
set_option maxHeartbeats 400000
namespace K33
open PySem L2 TL KG
section
variable {G G' : List (List Nat)} {W H W' H' : Nat}
theorem flat_one {α : Type} (W : Nat) (x : α) : (List.replicate W [x]).flatten = List.replicate W x := by
  induction W with
  | zero => rfl
  | succ k ih => rw [List.replicate_succ, List.flatten_cons, ih, List.replicate_succ]; rfl
theorem mul_small {a b : Int} (h : VH) (hc : cMul a b = true) : TL.bMul (.int a) (.int b) h = .ok (.int (a * b)) h := by
  simp only [TL.bMul, bI0, bI, hc, if_true]
theorem add_int (a b : Int) (h : VH) : TL.bAdd (.int a) (.int b) h = .ok (.int (a + b)) h := rfl
theorem rng_ok {g : MA} {τ : TS_} {h h1 : VH} {K : Nat} (e : g τ h = .ok [.int (K : Nat)] h1) (hK : K ≤ 100000) : iRange1 g τ h = .ok (fun _ => some (rangeT 0 K)) h1 := by
  unfold iRange1
  rw [e]
  simp only
  rw [if_pos ⟨by omega, by omega⟩, Int.toNat_natCast]
theorem grid_ok {n : Nat} {h : VH} (A : AllP h) (hn : n < h.length) : ∃ (W H : Nat) (G : List (List Nat)) (h' : VH), m_law_grid [.ref n, .int 5] h = .ok (gridT G) h' ∧ AllP h' ∧ h'.length = h.length ∧ Dim G W H ∧ Mut G W H ∧ W ≤ 5 ∧ H ≤ 5 := by
  obtain ⟨p, ha, r1, hp, A1, l1⟩ := roll_on (R := []) (k := 5) A hn (by omega) (by omega)
  obtain ⟨q, hb, r2, hq, A2, l2⟩ := roll_on (R := []) (k := 5) A1 (by rw [l1]; exact hn) (by omega) (by omega)
  simp only [List.append_nil] at r1 r2
  obtain ⟨W, hW⟩ : ∃ W, W = 1 + p := ⟨_, rfl⟩
  obtain ⟨H, hH⟩ : ∃ H, H = 1 + q := ⟨_, rfl⟩
  have e1 : (1 : Int) + (p : Nat) = (W : Nat) := by omega
  have e2 : (1 : Int) + (q : Nat) = (H : Nat) := by omega
  have w0 : 0 < W := by omega
  have w5 : W ≤ 5 := by omega
  have h0 : 0 < H := by omega
  have h5 : H ≤ 5 := by omega
  have L : hb.length = h.length := by rw [l2, l1]
  have s1 : ga1 (startT 12 [.ref n, .int 5]) h = .nx [some (.ref n), some (.int 5), some (.int (W : Nat)), some (.int (H : Nat)), none, none, none, none, none, none, none, none] hb := by
    have et : startT 12 [.ref n, .int 5] = [some (.ref n), some (.int 5), none, none, none, none, none, none, none, none, none, none] := rfl
    rw [et]
    simp only [ga1, sAsg, eTup, aCons, aNil, eOp, eK, eCall, eVar, List.getElem?_cons_succ, List.getElem?_cons_zero, r1, r2, TL.bAdd, bI0, bI, e1, e2, mgTup, mgsCons, mgName, mgsNil, List.length_cons, List.length_nil, Nat.reduceAdd, Nat.reduceLeDiff, if_true, List.set_cons_succ, List.set_cons_zero]
  have s2 : ga2 [some (.ref n), some (.int 5), some (.int (W : Nat)), some (.int (H : Nat)), none, none, none, none, none, none, none, none] hb = .nx (gst n W H hb.length none none none none none none none) (hb ++ rowsV (List.replicate H (List.replicate W 0))) := by
    have z := lcL_fresh (rd := fun _ => some (rangeT 0 H)) (g := mgName 5) (e := eH (mMul (eL (aLim (aCons (eK (.int 0)) aNil))) (eVar 2))) (τ := [some (.ref n), some (.int 5), some (.int (W : Nat)), some (.int (H : Nat)), none, none, none, none, none, none, none, none]) (ts := rangeT 0 H) (fun _ => rfl) (xs := (List.replicate W [T.int 0]).flatten) (fun t _ hh => ⟨[some (.ref n), some (.int 5), some (.int (W : Nat)), some (.int (H : Nat)), none, some t, none, none, none, none, none, none], rfl, by
      have c : 1 * ((W : Nat) : Int).toNat ≤ 16777216 ∧ (-1000000000 : Int) ≤ (W : Nat) ∧ ((W : Nat) : Int) ≤ 1000000000 := by
        rw [Int.toNat_natCast]
        omega
      simp only [eH, mMul, eL, aLim, aCons, aNil, eK, eVar, List.getElem?_cons_succ, List.getElem?_cons_zero, List.length_cons, List.length_nil, Nat.reduceAdd, Nat.reduceLeDiff, if_true, TL.listOf]
      rw [if_pos c, Int.toNat_natCast]⟩) H 0 [] hb (by rw [range_len]; omega)
    have em : iRange1 (aCons (eVar 3) aNil) [some (.ref n), some (.int 5), some (.int (W : Nat)), some (.int (H : Nat)), none, none, none, none, none, none, none, none] hb = .ok (fun _ => some (rangeT 0 H)) hb := by
      simp only [iRange1, aCons, aNil, eVar, List.getElem?_cons_succ, List.getElem?_cons_zero]
      rw [if_pos ⟨by omega, by omega⟩, Int.toNat_natCast]
    have ew : wipeT [some (.ref n), some (.int 5), some (.int (W : Nat)), some (.int (H : Nat)), none, none, none, none, none, none, none, none] [5] = [some (.ref n), some (.int 5), some (.int (W : Nat)), some (.int (H : Nat)), none, none, none, none, none, none, none, none] := rfl
    have er : rowsV (List.replicate H (List.replicate W 0)) = List.replicate H (VO.lst (List.replicate W [T.int 0]).flatten) := by
      unfold rowsV
      rw [List.map_replicate, List.map_replicate]
      congr 1
      have : (List.replicate W [T.int 0]).flatten = List.replicate W (T.int 0) := by
        exact flat_one W (T.int 0)
      rw [this]
      rfl
    rw [range_len] at z
    unfold ga2
    refine (set_ok (t := refsT hb.length H) (h1 := hb ++ rowsV (List.replicate H (List.replicate W 0))) ?_).trans rfl
    refine eL_ok ?_
    unfold mLc
    rw [em]
    simp only [range_len]
    rw [if_pos (by omega), ew, z, er]
    rfl
  have wh : W * H ≤ 25 := Nat.mul_le_mul w5 h5
  have cm : cMul (W : Int) (H : Int) = true := by
    unfold cMul
    rw [Bool.or_eq_true, Bool.and_eq_true]
    exact .inl ⟨decide_eq_true (by omega), decide_eq_true (by omega)⟩
  have D0 := zero_dim (W := W) (H := H) w0 (by omega) h0 (by omega)
  have M0 := zero_mut (W := W) (H := H) w0 h0
  obtain ⟨K, hK⟩ : ∃ K, K = 2 + W * H := ⟨_, rfl⟩
  have ez : (2 : Int) + (W : Int) * (H : Int) = (K : Int) := by rw [hK, Int.natCast_add, Int.natCast_mul]; rfl
  have kl : K ≤ 27 := by omega
  clear hK
  have e3 : aCons (eOp TL.bAdd (eK (.int 2)) (eOp TL.bMul (eVar 2) (eVar 3))) aNil (gst n W H hb.length none none none none none none none) (hb ++ rowsV (List.replicate H (List.replicate W 0))) = .ok [.int (K : Nat)] (hb ++ rowsV (List.replicate H (List.replicate W 0))) := by
    refine cons_ok (t := .int (K : Nat)) (h1 := hb ++ rowsV (List.replicate H (List.replicate W 0))) ?_ rfl
    refine (op_ok (t := .int 2) (u := .int ((W : Int) * (H : Int))) rfl ((op_ok rfl rfl).trans (mul_small _ cm))).trans ?_
    rw [add_int, ez]
  obtain ⟨τ', h', q1, q2⟩ := sFor_inv (mi := iRange1 (aCons (eOp TL.bAdd (eK (.int 2)) (eOp TL.bMul (eVar 2) (eVar 3))) aNil)) (g := mgName 6) (body := gbody) (τ := gst n W H hb.length none none none none none none none) (h := hb ++ rowsV (List.replicate H (List.replicate W 0))) (h1 := hb ++ rowsV (List.replicate H (List.replicate W 0)))
    (rd := fun _ => some (rangeT 0 K)) (ts := rangeT 0 K) (fun _ τ h' => ∃ (a b c d e f g : Option T) (h1 : VH) (G : List (List Nat)), τ = gst n W H hb.length a b c d e f g ∧ h' = h1 ++ rowsV G ∧ AllP h1 ∧ h1.length = hb.length ∧ Dim G W H ∧ Mut G W H)
    (by
      exact rng_ok e3 (by omega)) ⟨none, none, none, none, none, none, none, hb, _, rfl, rfl, A2, rfl, D0, M0⟩ (fun _ _ _ _ => rfl) (fun i hi τ h' I => by
      obtain ⟨a, b, c, d, e, f, g, k1, G, rfl, rfl, B, lk, D, M⟩ := I
      obtain ⟨k2, G2, c', d', e', f', g', z, B2, lk2, D2, M2⟩ := gb_ok D M B (by rw [lk, L]; exact hn) a (some (rangeT 0 K)[i]) c d e f g
      rw [lk] at z
      exact ⟨gst n W H hb.length a (some (rangeT 0 K)[i]) c d e f g, k1 ++ rowsV G, _, _, rfl, .inl z, a, _, c', d', e', f', g', k2, G2, rfl, rfl, B2, by rw [lk2, lk], D2, M2⟩)
  obtain ⟨a, b, c, d, e, f, g, k1, G, rfl, rfl, B, lk, D, M⟩ := q2
  refine ⟨W, H, G, k1, ?_, B, by rw [lk, L], D, M, w5, h5⟩
  have fin : defM 12 2 s_law_grid [.ref n, .int 5] h = .ok (refsT hb.length H) (k1 ++ rowsV G) := by
    rw [grid_eq]
    exact defM_rt rfl ((seq_nx s1).trans ((seq_nx s2).trans ((seq_nx q1).trans (ret_ok rfl))))
  have lh : k1.length = h.length := by rw [lk, L]
  have ht : (k1 ++ rowsV G).take h.length = k1 := by rw [← lh]; simp
  have fz : frz h.length (k1 ++ rowsV G) 4 (refsT hb.length H) = some (gridT G) := by
    rw [L]
    have nl : (refsT h.length H).lowR h.length = false := by
      obtain ⟨m, rfl⟩ : ∃ m, H = m + 1 := ⟨H - 1, by omega⟩
      unfold refsT
      rw [List.range_succ_eq_map, List.map_cons]
      simp [T.lowR, lowRs]
    have one : ∀ j, j < H → frz h.length (k1 ++ rowsV G) 3 (.ref (h.length + j)) = some (.lst ((G.getD j []).map fun d => T.int (d : Nat))) := by
      intro j hj
      have g0 := rowsV_at D (h := k1) hj
      rw [lh] at g0
      have lw : (T.ref (h.length + j)).lowR h.length = false := by simp [T.lowR]
      have li : ∀ t ∈ (G.getD j []).map (fun d => T.int (d : Nat)), frz h.length (k1 ++ rowsV G) 2 t = some (id t) := by
        intro t ht
        obtain ⟨d, _, rfl⟩ := List.mem_map.mp ht
        rfl
      unfold frz
      rw [lw]
      simp only [Bool.false_eq_true, if_false, g0]
      rw [mapM_some li]
      simp
    unfold refsT at nl ⊢
    unfold frz
    rw [nl]
    simp only [Bool.false_eq_true, if_false]
    have all : ∀ t ∈ (List.range H).map (fun j => T.ref (h.length + j)), frz h.length (k1 ++ rowsV G) 3 t = some ((fun u => match u with | .ref m => T.lst ((G.getD (m - h.length) []).map fun d => T.int (d : Nat)) | u => u) t) := by
      intro t ht
      obtain ⟨j, hj, rfl⟩ := List.mem_map.mp ht
      rw [one j (List.mem_range.mp hj)]
      simp
    rw [mapM_some all, List.map_map]
    unfold gridT
    refine congrArg (fun l => some (T.lst l)) ?_
    apply List.ext_getElem (by simp [D.len])
    intro i h1 h2
    have hi : i < G.length := by simpa using h2
    simp [List.getD_eq_getElem?_getD, List.getElem?_eq_getElem hi]
  unfold m_law_grid cutM
  rw [fin]
  simp only [ht, B.low, if_true, fz]
end
end K33
set_option Elab.async false
set_option linter.all false
set_option maxRecDepth 100000
set_option maxHeartbeats 400000
namespace K33
open PySem L2 TL KG
section
variable {G G' : List (List Nat)} {W H W' H' : Nat}
theorem mut_of (D : Dim G W H) (f : ∀ i : Nat, i < H → ∀ j : Nat, j < W → cell G W H (j : Int) (i : Int) < 10 ∧ cell G W H (j : Int) (i : Int) ≠ 5 ∧ (cell G W H (j : Int) (i : Int) ≠ 0 → cell G W H ((j : Int) + sx (cell G W H (j : Int) (i : Int))) ((i : Int) + sy (cell G W H (j : Int) (i : Int))) + cell G W H (j : Int) (i : Int) = 10)) : Mut G W H := by
  have key : ∀ x y : Int, ∃ i j : Nat, i < H ∧ j < W ∧ (x % (W : Int) = (j : Nat)) ∧ (y % (H : Int) = (i : Nat)) := fun x y => by
    obtain ⟨j, e1, hj⟩ := mod_ix x D.w0
    obtain ⟨i, e2, hi⟩ := mod_ix y D.h0
    exact ⟨i, j, hi, hj, e1, e2⟩
  have cg : ∀ (x y : Int) (i j : Nat), i < H → j < W → x % (W : Int) = (j : Nat) → y % (H : Int) = (i : Nat) → cell G W H x y = cell G W H (j : Int) (i : Int) := fun x y i j hi hj e1 e2 => by
    apply cell_congr
    · rw [e1, Int.emod_eq_of_lt (by omega) (by omega)]
    · rw [e2, Int.emod_eq_of_lt (by omega) (by omega)]
  refine ⟨fun x y => ?_, fun x y => ?_, fun x y nz => ?_⟩ <;> obtain ⟨i, j, hi, hj, e1, e2⟩ := key x y <;> obtain ⟨q1, q2, q3⟩ := f i hi j hj
  · rw [cg x y i j hi hj e1 e2]; exact q1
  · rw [cg x y i j hi hj e1 e2]; exact q2
  · have e := cg x y i j hi hj e1 e2
    rw [e] at nz ⊢
    have := q3 nz
    rw [← this]
    congr 1
    apply cell_congr
    · rw [← e1, Int.emod_add_emod]
    · rw [← e2, Int.emod_add_emod]
def g1 : List (List Nat) := [[2, 2], [8, 8]]
def g2 : List (List Nat) := [[0, 0], [6, 4]]
theorem g1_dim : Dim g1 2 2 := ⟨rfl, by decide, by decide, by decide, by decide, by decide⟩
theorem g2_dim : Dim g2 2 2 := ⟨rfl, by decide, by decide, by decide, by decide, by decide⟩
theorem g1_mut : Mut g1 2 2 := mut_of g1_dim (by decide)
theorem g2_mut : Mut g2 2 2 := mut_of g2_dim (by decide)
theorem g1_spell : spell g1 = "88/22" := by decide +kernel
theorem g2_spell : spell g2 = "64/00" := by decide +kernel
theorem g1_cell (x y : Int) : cell g1 2 2 x y = if y % 2 = 0 then 2 else 8 := by
  have a : cell g1 2 2 x y = cell g1 2 2 (x % 2) (y % 2) := cell_congr (by omega) (by omega)
  rw [a]
  rcases (show x % 2 = 0 ∨ x % 2 = 1 by omega) with p | p <;> rcases (show y % 2 = 0 ∨ y % 2 = 1 by omega) with q | q <;> rw [p, q] <;> decide
theorem g2_cell (x y : Int) (h : y % 2 = 0) : cell g2 2 2 x y = 0 := by
  have a : cell g2 2 2 x y = cell g2 2 2 (x % 2) (y % 2) := cell_congr (by omega) (by omega)
  rw [a, h]
  rcases (show x % 2 = 0 ∨ x % 2 = 1 by omega) with p | p <;> rw [p] <;> decide
theorem g1_n (h : VH) : m_longest_along [pat g1, .str "n"] h = .ok (.int 2) h := by
  obtain ⟨r, e, i⟩ := along_ok g1_dim way_n (pat_at g1 h)
  have s : ∀ x y : Int, St g1 2 2 8 x y ↔ y % 2 = 1 := fun x y => by
    unfold St
    rw [g1_cell]
    split <;> omega
  have t : IsL (St g1 2 2 8) (sx 8) (sy 8) (some 2) := by
    refine ⟨fun x y => ?_, ⟨0, 1, by decide, (s _ _).mpr (by decide), (s _ _).mpr (by decide), fun j a b => ?_⟩, fun x y m g => ?_⟩
    · by_cases q : y % 2 = 1
      · exact ⟨0, (s _ _).mpr (by show (y + 0 * 1) % 2 = 1; omega)⟩
      · exact ⟨1, (s _ _).mpr (by show (y + 1 * 1) % 2 = 1; omega)⟩
    · have : j = 1 := by omega
      subst this
      rw [s]
      decide
    · obtain ⟨a, b, c, d⟩ := g
      rw [s] at b
      refine Decidable.byContradiction fun z => d 2 (by omega) (by omega) ?_
      rw [s]
      show (y + ((2 : Nat) : Int) * 1) % 2 = 1
      omega
  have := i.uniq t
  rw [this] at e
  exact e
theorem g1_e (h : VH) : m_longest_along [pat g1, .str "e"] h = .ok .non h := by
  obtain ⟨r, e, i⟩ := along_ok g1_dim way_e (pat_at g1 h)
  have t : IsL (St g1 2 2 6) (sx 6) (sy 6) none := ⟨0, 0, fun k z => by
    unfold St at z
    rw [g1_cell] at z
    split at z <;> omega⟩
  have := i.uniq t
  rw [this] at e
  exact e
theorem g2_e (h : VH) : m_longest_along [pat g2, .str "e"] h = .ok .non h := by
  obtain ⟨r, e, i⟩ := along_ok g2_dim way_e (pat_at g2 h)
  have t : IsL (St g2 2 2 6) (sx 6) (sy 6) none := ⟨0, 0, fun k z => by
    unfold St at z
    rw [g2_cell _ _ (by show (0 + k * 0) % 2 = 0; rw [Int.mul_zero]; rfl)] at z
    omega⟩
  have := i.uniq t
  rw [this] at e
  exact e
def optD : Option Nat → PyData
  | none => .none
  | some M => .int (M : Nat)
theorem optD_refl (o : Option Nat) : PyData.eqv (optD o) (optD o) = true := by cases o <;> simp [optD, PyData.eqv]
theorem dat_opt (h : VH) (k : Nat) (o : Option Nat) : T.dat h k (optT o) = some (optD o) := by cases o <;> cases k <;> rfl
theorem ne_opts (os : List (Option Nat)) (h : VH) : bNe (.lst (os.map optT)) (.lst (os.map optT)) h = .ok (.bl false) h := by
  have e : T.dat h 10 (.lst (os.map optT)) = some (.list (os.map optD)) := by
    rw [dat_lst, List.mapM_map]
    have := mapM_some (f := fun o => T.dat h 9 (optT o)) (g := optD) (l := os) fun o _ => dat_opt h 9 o
    have e2 : List.mapM ((T.dat h 9) ∘ optT) os = some (os.map optD) := this
    first | rw [this] | rw [e2]
    rfl
  have r : ∀ ds : List (Option Nat), PyData.eqvAll (ds.map optD) (ds.map optD) = true := by
    intro ds
    induction ds with
    | nil => rfl
    | cons a ds ih => simp [PyData.eqvAll, optD_refl, ih]
  unfold bNe bEqG
  rw [e]
  simp only [PyData.eqv, r, Bool.not_true]
theorem held_e (e n a b : Option Nat) : held n e b a = held e n a b := by
  cases e <;> cases n <;> cases a <;> cases b <;> simp [held]
  omega
theorem held_m (e n a b : Option Nat) : held e n b a = held e n a b := by
  cases e <;> cases n <;> cases a <;> cases b <;> simp [held]
  omega
end
end K33
set_option Elab.async false
set_option linter.all false
set_option maxRecDepth 100000
set_option maxHeartbeats 400000
namespace K33
open PySem L2 TL KG
section
variable {G G' : List (List Nat)} {W H W' H' : Nat}
def cb1 : MS := (sSet 3 (eCall m_law_grid (aCons (eVar 0) (aCons (eK (.int 5)) aNil))))
def cb2 : MS := (sSet 4 (eCall m_law_told (aCons (eVar 3) aNil)))
def cb3 : MS := (sPar 5 6 (aCons (eCall fLen (aCons (eOp bIx (eVar 3) (eK (.int 0))) aNil)) (aCons (eCall fLen (aCons (eVar 3) aNil)) aNil)))
def cb4 : MS := (sSet 7 (eCall m_law_begun (aCons (eVar 3) (aCons (eCall m_law_roll (aCons (eVar 0) (aCons (eVar 5) aNil))) (aCons (eCall m_law_roll (aCons (eVar 0) (aCons (eVar 6) aNil))) aNil)))))
def cb5 : MB := (bTest (eOp bNe (eCall m_law_told (aCons (eVar 7) aNil)) (eVar 4)))
def cb6a : MB := (bTest (eOp bNe (eCall m_law_told (aCons (eL (mLc (iSeqC (eVar 3)) [8] (mgName 8) bYes (eOp bAdd (eVar 8) (eVar 8)))) aNil)) (eVar 4)))
def cb6b : MB := (bTest (eOp bNe (eCall m_law_told (aCons (eOp bAdd (eVar 3) (eVar 3)) aNil)) (eVar 4)))
def cb7 : MB := (bTest (eOp bNe (eCall m_law_told (aCons (eCall m_law_turned (aCons (eVar 3) aNil)) aNil)) (eL (aLim (aCons (eOp bIx (eVar 4) (eK (.int 1))) (aCons (eOp bIx (eVar 4) (eK (.int 0))) (aCons (eOp bIx (eVar 4) (eK (.int 3))) (aCons (eOp bIx (eVar 4) (eK (.int 2))) (aCons (eOp bIx (eVar 4) (eK (.int 4))) aNil)))))))))
def cb8 : MB := (bTest (eOp bNe (eCall m_law_told (aCons (eCall m_law_mirrored (aCons (eVar 3) aNil)) aNil)) (eL (aLim (aCons (eOp bIx (eVar 4) (eK (.int 0))) (aCons (eOp bIx (eVar 4) (eK (.int 1))) (aCons (eOp bIx (eVar 4) (eK (.int 3))) (aCons (eOp bIx (eVar 4) (eK (.int 2))) (aCons (eOp bIx (eVar 4) (eK (.int 4))) aNil)))))))))
def no : MS := sRet (eK (.bl false))
def cbody : MS := sSeq cb1 (sSeq cb2 (sSeq cb3 (sSeq cb4 (sSeq (sIf cb5 no sNil) (sSeq (sIf (bOr cb6a cb6b) no sNil) (sSeq (sIf cb7 no sNil) (sIf cb8 no sNil)))))))
def ca1 : MS := (sSet 1 (eCall (cutM (makeM 2 m_Pattern___init__)) (aCons (eK (.str "88/22")) aNil)))
def ca2 : MB := (bTest (eOp bNe (eL (aLim (aCons (eCall m_longest_free (aCons (eVar 1) (aCons (eK (.str "n")) aNil))) (aCons (eCall m_longest_free (aCons (eVar 1) (aCons (eK (.str "e")) aNil))) (aCons (eCall m_longest_free (aCons (eCall (cutM (makeM 2 m_Pattern___init__)) (aCons (eK (.str "64/00")) aNil)) (aCons (eK (.str "e")) aNil))) aNil))))) (eL (aLim (aCons (eK (.int 2)) (aCons (eK .non) (aCons (eK .non) aNil)))))))
theorem case_eq : s_law_case_right = sSeq ca1 (sSeq (sIf ca2 no sNil) (sSeq (sFor (iRange1 (aCons (eK (.int 5)) aNil)) (mgName 2) cbody) (sRet (eK (.bl true))))) := rfl
def cst (n : Nat) (c d e f g i j : Option T) : TS_ := [some (.ref n), some (pat g1), c, d, e, f, g, i, j]
theorem told_tell (D : Dim G W H) (M : Mut G W H) {h : VH} (A : AllP h) : ∃ e n a b, m_law_told [gridT G] h = .ok (toldT e n a b) h ∧ Tell G W H e n a b := told_ok D M (A.low _)
theorem ne_told (e n a b : Option Nat) (h : VH) : bNe (toldT e n a b) (toldT e n a b) h = .ok (.bl false) h := ne_opts [e, n, a, b, held e n a b] h
theorem told_ix (e n a b : Option Nat) (h : VH) : TL.bIx (toldT e n a b) (.int 0) h = .ok (optT e) h ∧ TL.bIx (toldT e n a b) (.int 1) h = .ok (optT n) h ∧ TL.bIx (toldT e n a b) (.int 2) h = .ok (optT a) h ∧ TL.bIx (toldT e n a b) (.int 3) h = .ok (optT b) h ∧ TL.bIx (toldT e n a b) (.int 4) h = .ok (optT (held e n a b)) h := ⟨rfl, rfl, rfl, rfl, rfl⟩
theorem cb_ok {n : Nat} {h : VH} (A : AllP h) (hn : n < h.length) (c d e f g i j : Option T) : ∃ (h' : VH) (d' e' f' g' i' : Option T), cbody (cst n c d e f g i j) h = .nx (cst n c d' e' f' g' i' j) h' ∧ AllP h' ∧ h'.length = h.length := by
  obtain ⟨W, H, G, k1, r1, A1, l1, D, M, w5, h5⟩ := grid_ok A hn
  obtain ⟨te, tn, ta, tb, r2, T2⟩ := told_tell D M A1
  have w0 := D.w0
  have h0 := D.h0
  obtain ⟨r0, er0, el0⟩ := first_row D
  obtain ⟨x, k2', r3, hx, A2, l2⟩ := roll_on (R := []) (k := W) A1 (by rw [l1]; exact hn) (by omega) (by omega)
  obtain ⟨y, k3, r4, hy, A3, l3⟩ := roll_on (R := []) (k := H) A2 (by rw [l2, l1]; exact hn) (by omega) (by omega)
  simp only [List.append_nil] at r3 r4
  have r5 := begun_ok D (x : Int) (y : Int) k3
  have Db : Dim (begun G W H x y) W H := ofFn_dim D.h0 D.h1 D.w0 D.w1
  have Mb : Mut (begun G W H x y) W H := begun_mut D M _ _
  obtain ⟨be, bn, ba, bb, r6, T6⟩ := told_tell Db Mb A3
  obtain ⟨q1, q2, q3, q4⟩ := tell_begun D T2 T6
  rw [q1, q2, q3, q4] at r6
  clear q1 q2 q3 q4
  have Dw : Dim (G.map fun r => r ++ r) (2 * W) H := (rows_add D).mpr ⟨trivial, by omega⟩
  have Mw : Mut (G.map fun r => r ++ r) (2 * W) H := M.same (wide_cell D)
  obtain ⟨we, wn, wa, wb, r7, T7⟩ := told_tell Dw Mw A3
  obtain ⟨q1, q2, q3, q4⟩ := tell_same (wide_cell D) T2 T7
  rw [q1, q2, q3, q4] at r7
  clear q1 q2 q3 q4
  have Dh : Dim (G ++ G) W (2 * H) := high_dim D (by omega)
  have Mh : Mut (G ++ G) W (2 * H) := M.same (high_cell D)
  obtain ⟨he, hn', ha, hb, r8, T8⟩ := told_tell Dh Mh A3
  obtain ⟨q1, q2, q3, q4⟩ := tell_same (high_cell D) T2 T8
  rw [q1, q2, q3, q4] at r8
  clear q1 q2 q3 q4
  have Dt : Dim (turned G W H) H W := ofFn_dim D.w0 D.w1 D.h0 D.h1
  have Mt : Mut (turned G W H) H W := turned_mut D M
  have r9 := turned_ok D M k3
  obtain ⟨ue, un, ua, ub, r10, T10⟩ := told_tell Dt Mt A3
  obtain ⟨q1, q2, q3, q4⟩ := tell_turned D M T2 T10
  rw [q1, q2, q3, q4] at r10
  clear q1 q2 q3 q4
  have Dm : Dim (mirrored G) W H := ⟨by rw [mirrored, List.length_map]; exact D.len, D.h0, D.h1, fun r hr => by
    obtain ⟨q, hq, rfl⟩ := List.mem_map.mp hr
    rw [List.length_map, List.length_reverse]
    exact D.row q hq, D.w0, D.w1⟩
  have Mm : Mut (mirrored G) W H := mirrored_mut D M
  have r11 := mirrored_ok D M k3
  obtain ⟨ve, vn, va, vb, r12, T12⟩ := told_tell Dm Mm A3
  obtain ⟨q1, q2, q3, q4⟩ := tell_mirrored D M T2 T12
  rw [q1, q2, q3, q4] at r12
  clear q1 q2 q3 q4
  have S1 : cb1 (cst n c d e f g i j) h = .nx (cst n c (some (gridT G)) e f g i j) k1 := set_ok ((call_ok (ts := [.ref n, .int 5]) rfl).trans r1)
  have S2 : cb2 (cst n c (some (gridT G)) e f g i j) k1 = .nx (cst n c (some (gridT G)) (some (toldT te tn ta tb)) f g i j) k1 := set_ok ((call_ok (ts := [gridT G]) rfl).trans r2)
  have F1 : TL.bIx (gridT G) (.int 0) k1 = .ok (.lst (r0.map fun d => .int (d : Nat))) k1 := by
    unfold gridT
    simp only [TL.bIx, TL.listOf, er0]
  have F2 : fLen [.lst (r0.map fun d => T.int (d : Nat))] k1 = .ok (.int (W : Nat)) k1 := by
    simp only [fLen, seqOf, TL.listOf, el0]
  have F3 : fLen [gridT G] k1 = .ok (.int (H : Nat)) k1 := by
    unfold gridT
    simp only [fLen, seqOf, TL.listOf, List.length_map, D.len]
  have S3 : cb3 (cst n c (some (gridT G)) (some (toldT te tn ta tb)) f g i j) k1 = .nx (cst n c (some (gridT G)) (some (toldT te tn ta tb)) (some (.int (W : Nat))) (some (.int (H : Nat))) i j) k1 := by
    have a1 : aCons (eCall fLen (aCons (eOp TL.bIx (eVar 3) (eK (.int 0))) aNil)) (aCons (eCall fLen (aCons (eVar 3) aNil)) aNil) (cst n c (some (gridT G)) (some (toldT te tn ta tb)) f g i j) k1 = .ok [.int (W : Nat), .int (H : Nat)] k1 :=
      cons_ok ((call_ok (cons_ok ((op_ok rfl rfl).trans F1) rfl)).trans F2) (cons_ok ((call_ok (ts := [gridT G]) rfl).trans F3) rfl)
    unfold cb3 sPar
    rw [a1]
    rfl
  have S4 : cb4 (cst n c (some (gridT G)) (some (toldT te tn ta tb)) (some (.int (W : Nat))) (some (.int (H : Nat))) i j) k1 = .nx (cst n c (some (gridT G)) (some (toldT te tn ta tb)) (some (.int (W : Nat))) (some (.int (H : Nat))) (some (gridT (begun G W H x y))) j) k3 :=
    set_ok ((call_ok (cons_ok rfl (cons_ok ((call_ok (ts := [.ref n, .int (W : Nat)]) rfl).trans r3) (cons_ok ((call_ok (ts := [.ref n, .int (H : Nat)]) rfl).trans r4) rfl)))).trans r5)
  obtain ⟨τ, hτ⟩ : ∃ τ, τ = cst n c (some (gridT G)) (some (toldT te tn ta tb)) (some (.int (W : Nat))) (some (.int (H : Nat))) (some (gridT (begun G W H x y))) j := ⟨_, rfl⟩
  rw [← hτ] at S4
  have V3 : eVar 3 τ k3 = .ok (gridT G) k3 := by rw [hτ]; rfl
  have V4 : eVar 4 τ k3 = .ok (toldT te tn ta tb) k3 := by rw [hτ]; rfl
  have V7 : eVar 7 τ k3 = .ok (gridT (begun G W H x y)) k3 := by rw [hτ]; rfl
  have nt := ne_told te tn ta tb k3
  obtain ⟨i0, i1, i2, i3, i4⟩ := told_ix te tn ta tb k3
  have B5 : cb5 τ k3 = .ok false k3 := test_ok ((op_ok ((call_ok (cons_ok V7 rfl)).trans r6) V4).trans nt)
  have B6a : cb6a τ k3 = .ok false k3 := by
    have z := wide_ok D (fun q => cst n c (some (gridT G)) (some (toldT te tn ta tb)) (some (.int (W : Nat))) (some (.int (H : Nat))) (some (gridT (begun G W H x y))) q) (fun q => ⟨rfl, rfl, fun _ _ => rfl, fun _ => rfl⟩) j k3
    have z : mLc (iSeqC (eVar 3)) [8] (mgName 8) bYes (eOp TL.bAdd (eVar 8) (eVar 8)) (cst n c (some (gridT G)) (some (toldT te tn ta tb)) (some (.int (W : Nat))) (some (.int (H : Nat))) (some (gridT (begun G W H x y))) j) k3 = _ := z
    rw [← hτ] at z
    exact test_ok ((op_ok ((call_ok (cons_ok (eL_ok z) rfl)).trans r7) V4).trans nt)
  have B6b : cb6b τ k3 = .ok false k3 := test_ok ((op_ok ((call_ok (cons_ok ((op_ok V3 V3).trans (high_ok D k3)) rfl)).trans r8) V4).trans nt)
  have B6 : TL.bOr cb6a cb6b τ k3 = .ok false k3 := by
    unfold TL.bOr
    rw [B6a]
    exact B6b
  have VK : ∀ (m : Int), eK (.int m) τ k3 = .ok (.int m) k3 := fun m => rfl
  have NA : aNil τ k3 = .ok [] k3 := rfl
  have lim : ∀ {g : MA} {a b c d e : T}, g τ k3 = .ok [a, b, c, d, e] k3 → aLim g τ k3 = .ok [a, b, c, d, e] k3 := fun {g} {a b c d e} z => by
    unfold aLim
    rw [z]
    rfl
  have N7 := ne_opts [tn, te, tb, ta, held tn te tb ta] k3
  rw [held_e te tn ta tb] at N7
  have B7 : cb7 τ k3 = .ok false k3 := by
    have R := eL_ok (lim (cons_ok ((op_ok V4 (VK 1)).trans i1) (cons_ok ((op_ok V4 (VK 0)).trans i0) (cons_ok ((op_ok V4 (VK 3)).trans i3) (cons_ok ((op_ok V4 (VK 2)).trans i2) (cons_ok ((op_ok V4 (VK 4)).trans i4) NA))))))
    refine test_ok ((op_ok ((call_ok (cons_ok ((call_ok (cons_ok V3 rfl)).trans r9) rfl)).trans r10) R).trans ?_)
    unfold toldT
    rw [held_e te tn ta tb]
    exact N7
  have N8 := ne_opts [te, tn, tb, ta, held te tn tb ta] k3
  rw [held_m te tn ta tb] at N8
  have B8 : cb8 τ k3 = .ok false k3 := by
    have R := eL_ok (lim (cons_ok ((op_ok V4 (VK 0)).trans i0) (cons_ok ((op_ok V4 (VK 1)).trans i1) (cons_ok ((op_ok V4 (VK 3)).trans i3) (cons_ok ((op_ok V4 (VK 2)).trans i2) (cons_ok ((op_ok V4 (VK 4)).trans i4) NA))))))
    refine test_ok ((op_ok ((call_ok (cons_ok ((call_ok (cons_ok V3 rfl)).trans r11) rfl)).trans r12) R).trans ?_)
    unfold toldT
    rw [held_m te tn ta tb]
    exact N8
  refine ⟨k3, some (gridT G), some (toldT te tn ta tb), some (.int (W : Nat)), some (.int (H : Nat)), some (gridT (begun G W H x y)), ?_, A3, by rw [l3, l2, l1]⟩
  rw [← hτ]
  refine (seq_nx S1).trans ((seq_nx S2).trans ((seq_nx S3).trans ((seq_nx S4).trans ?_)))
  exact (seq_nx ((if_f B5).trans rfl)).trans ((seq_nx ((if_f B6).trans rfl)).trans ((seq_nx ((if_f B7).trans rfl)).trans ((if_f B8).trans rfl)))
end
end K33
set_option Elab.async false
set_option linter.all false
set_option maxRecDepth 100000
set_option maxHeartbeats 400000
namespace K33
open PySem L2 TL KG
section
theorem made1 {h : VH} (A : AllP h) : cutM (makeM 2 m_Pattern___init__) [.str "88/22"] h = .ok (pat g1) h := by rw [← g1_spell]; exact make_ok g1_dim g1_mut (A.low _)
theorem made2 {h : VH} (A : AllP h) : cutM (makeM 2 m_Pattern___init__) [.str "64/00"] h = .ok (pat g2) h := by rw [← g2_spell]; exact make_ok g2_dim g2_mut (A.low _)
theorem case_ok {n : Nat} {h : VH} (A : AllP h) (hn : n < h.length) : ∃ h', m_law_case_right [.ref n] h = .ok (.bl true) h' ∧ AllP h' ∧ h'.length = h.length := by
  have et : startT 9 [.ref n] = [some (.ref n), none, none, none, none, none, none, none, none] := rfl
  have S1 : ca1 (startT 9 [.ref n]) h = .nx (cst n none none none none none none none) h := by
    rw [et]
    exact set_ok ((call_ok (ts := [.str "88/22"]) rfl).trans (made1 A))
  have f1 := free_ok (G := g1) (w := "n") (h := h) rfl (g1_n h)
  have f2 := free_ok (G := g1) (w := "e") (h := h) rfl (g1_e h)
  have f3 := free_ok (G := g2) (w := "e") (h := h) rfl (g2_e h)
  obtain ⟨τ, hτ⟩ : ∃ τ, τ = cst n none none none none none none none := ⟨_, rfl⟩
  have V1 : eVar 1 τ h = .ok (pat g1) h := by rw [hτ]; rfl
  have NA : aNil τ h = .ok [] h := rfl
  have VS : ∀ s : Str, eK (.str s) τ h = .ok (.str s) h := fun s => rfl
  have B : ca2 τ h = .ok false h := by
    have R1 : eL (aLim (aCons (eCall m_longest_free (aCons (eVar 1) (aCons (eK (.str "n")) aNil))) (aCons (eCall m_longest_free (aCons (eVar 1) (aCons (eK (.str "e")) aNil))) (aCons (eCall m_longest_free (aCons (eCall (cutM (makeM 2 m_Pattern___init__)) (aCons (eK (.str "64/00")) aNil)) (aCons (eK (.str "e")) aNil))) aNil)))) τ h = .ok (.lst [.int 2, .non, .non]) h := by
      refine eL_ok ?_
      have z := cons_ok ((call_ok (cons_ok V1 (cons_ok (VS "n") NA))).trans f1) (cons_ok ((call_ok (cons_ok V1 (cons_ok (VS "e") NA))).trans f2) (cons_ok ((call_ok (cons_ok ((call_ok (cons_ok (VS "64/00") NA)).trans (made2 A)) (cons_ok (VS "e") NA))).trans f3) NA))
      unfold aLim
      rw [z]
      rfl
    have R2 : eL (aLim (aCons (eK (.int 2)) (aCons (eK .non) (aCons (eK .non) aNil)))) τ h = .ok (.lst [.int 2, .non, .non]) h := rfl
    exact test_ok ((op_ok R1 R2).trans (ne_opts [some 2, none, none] h))
  subst hτ
  obtain ⟨τ', h', q1, q2⟩ := sFor_inv (mi := iRange1 (aCons (eK (.int 5)) aNil)) (g := mgName 2) (body := cbody) (τ := cst n none none none none none none none) (h := h) (h1 := h) (rd := fun _ => some (rangeT 0 5)) (ts := rangeT 0 5)
    (fun _ τ h' => ∃ (c d e f g i j : Option T), τ = cst n c d e f g i j ∧ AllP h' ∧ h'.length = h.length) (rng_ok (K := 5) rfl (by omega)) ⟨none, none, none, none, none, none, none, rfl, A, rfl⟩ (fun _ _ _ _ => rfl) (fun k hk τ h' I => by
      obtain ⟨c, d, e, f, g, i, j, rfl, A1, l1⟩ := I
      obtain ⟨h2, d', e', f', g', i', z, A2, l2⟩ := cb_ok A1 (by rw [l1]; exact hn) (some (rangeT 0 5)[k]) d e f g i j
      exact ⟨cst n (some (rangeT 0 5)[k]) d e f g i j, h', _, _, rfl, .inl z, _, d', e', f', g', i', j, rfl, A2, by rw [l2, l1]⟩)
  obtain ⟨c, d, e, f, g, i, j, rfl, A1, l1⟩ := q2
  refine ⟨h', ?_, A1, l1⟩
  show defM 9 1 s_law_case_right [.ref n] h = _
  rw [case_eq]
  exact defM_rt rfl ((seq_nx S1).trans ((seq_nx ((if_f B).trans rfl)).trans ((seq_nx q1).trans (ret_ok rfl))))
end
end K33
set_option Elab.async false
set_option linter.all false
set_option maxRecDepth 100000
set_option maxHeartbeats 400000
namespace PG
open PySem L2 TL KG K33
structure Iq (n : Nat) (h : VH) : Prop where
  pu : Pu n h
  fl : ∀ o ∈ h, ∀ m, h.length ≤ m → VO.lowR m o = true
theorem Iq.lt {n : Nat} {h : VH} (I : Iq n h) : n < h.length := let ⟨_, e, _⟩ := I.pu; (List.getElem?_eq_some_iff.mp e).1
theorem Iq.low {n : Nat} {h : VH} (I : Iq n h) {m : Nat} (hm : h.length ≤ m) : h.all (VO.lowR m) = true := List.all_eq_true.mpr fun o ho => I.fl o ho m hm
theorem Iq.low0 {n : Nat} {h : VH} (I : Iq n h) : h.all (VO.lowR h.length) = true := I.low (Nat.le_refl _)
theorem isp_flat {o : VO} (i : IsP o) (m : Nat) : VO.lowR m o = true := by
  obtain ⟨a, b, c, rfl, _⟩ := i
  rfl
theorem Iq.set {n : Nat} {h : VH} (I : Iq n h) {o : VO} (ho : IsP o) : Iq n (h.set n o) := ⟨I.pu.set ho, fun p hp m hm => by
  have hm : h.length ≤ m := by simpa using hm
  rcases List.mem_or_eq_of_mem_set hp with z | rfl
  · exact I.fl p z m hm
  · exact isp_flat ho m⟩
theorem Iq.app {n : Nat} {h : VH} (I : Iq n h) {o : VO} (ho : ∀ m, h.length < m → VO.lowR m o = true) : Iq n (h ++ [o]) := by
  refine ⟨?_, fun p hp m hm => ?_⟩
  · obtain ⟨q, e, i⟩ := I.pu
    exact ⟨q, by rw [List.getElem?_append_left I.lt]; exact e, i⟩
  · rcases List.mem_append.mp hp with z | z
    · exact I.fl p z m (by simp at hm; omega)
    · rw [List.mem_singleton.mp z]; exact ho m (by simp at hm; omega)
theorem Iq.put {n q : Nat} {h : VH} (I : Iq n h) (ne : q ≠ n) {o : VO} (ho : ∀ m, h.length ≤ m → VO.lowR m o = true) : Iq n (h.set q o) := by
  refine ⟨?_, fun p hp m hm => ?_⟩
  · obtain ⟨z, e, i⟩ := I.pu
    exact ⟨z, by rw [List.getElem?_set_ne ne]; exact e, i⟩
  · rcases List.mem_or_eq_of_mem_set hp with z | rfl
    · exact I.fl p z m (by simp at hm; omega)
    · exact ho m (by simpa using hm)
theorem Iq.new {h : VH} (f : ∀ o ∈ h, ∀ m, h.length ≤ m → VO.lowR m o = true) {o : VO} (ho : IsP o) : Iq h.length (h ++ [o]) := ⟨⟨o, by simp, ho⟩, fun p hp m hm => by
  rcases List.mem_append.mp hp with z | z
  · exact f p z m (by simp at hm; omega)
  · rw [List.mem_singleton.mp z]; exact isp_flat ho m⟩
section
variable {G G' : List (List Nat)} {W H W' H' : Nat}
def gst (z0 n W H L : Nat) (a b c d e f g : Option T) : TS_ := [some (.ref n), some (.int (z0 : Nat)), some (.int (W : Nat)), some (.int (H : Nat)), some (refsT L H), a, b, c, d, e, f, g]
theorem roll_on {n : Nat} {h R : VH} {k : Int} (a : Iq n h) (hk : 0 < k) (hk2 : k < 1000000) : ∃ (r : Nat) (h' : VH), m_law_roll [.ref n, .int k] (h ++ R) = .ok (.int (r : Nat)) (h' ++ R) ∧ (r : Int) < k ∧ Iq n h' ∧ h'.length = h.length := by
  have hp : Pu n (h ++ R) := by
    obtain ⟨o, e, i⟩ := a.pu
    have hn := a.lt
    exact ⟨o, by rw [List.getElem?_append_left hn]; exact e, i⟩
  obtain ⟨r, o, e, r0, r1, io⟩ := roll_ok hp hk hk2
  refine ⟨r.toNat, h.set n o, ?_, by omega, a.set io, List.length_set⟩
  rw [e, List.set_append_left _ _ a.lt]
  refine congrArg (fun i => Res.ok (T.int i) _) ?_
  omega
theorem pick_ok {n : Nat} {h R : VH} (a : Iq n h) : ∃ (d : Nat) (h' : VH), m_law_pick [.ref n, .lst [.int 6, .int 6, .int 8, .int 9, .int 7]] (h ++ R) = .ok (.int (d : Nat)) (h' ++ R) ∧ IsW d ∧ Iq n h' ∧ h'.length = h.length := by
  obtain ⟨r, h', e, r1, a', l'⟩ := roll_on (R := R) (k := 5) a (by omega) (by omega)
  have key : ∀ d : Nat, TL.bIx (.lst [.int 6, .int 6, .int 8, .int 9, .int 7]) (.int (r : Nat)) (h' ++ R) = .ok (.int (d : Nat)) (h' ++ R) → m_law_pick [.ref n, .lst [.int 6, .int 6, .int 8, .int 9, .int 7]] (h ++ R) = .ok (.int (d : Nat)) (h' ++ R) := by
    intro d hd
    refine defM_rt rfl (ret_ok ?_)
    refine (op_ok (t := .lst [.int 6, .int 6, .int 8, .int 9, .int 7]) (u := .int (r : Nat)) (h1 := h ++ R) (h2 := h' ++ R) rfl ?_).trans hd
    exact (call_ok (ts := [.ref n, .int 5]) rfl).trans e
  have : r = 0 ∨ r = 1 ∨ r = 2 ∨ r = 3 ∨ r = 4 := by omega
  rcases this with rfl | rfl | rfl | rfl | rfl
  · exact ⟨6, h', key 6 rfl, .inl rfl, a', l'⟩
  · exact ⟨6, h', key 6 rfl, .inl rfl, a', l'⟩
  · exact ⟨8, h', key 8 rfl, .inr (.inl rfl), a', l'⟩
  · exact ⟨9, h', key 9 rfl, .inr (.inr (.inl rfl)), a', l'⟩
  · exact ⟨7, h', key 7 rfl, .inr (.inr (.inr rfl)), a', l'⟩
theorem gb_ok (D : Dim G W H) (M : Mut G W H) {n z0 : Nat} {h : VH} (A : Iq n h) (a b c d e f g : Option T) : ∃ (h' : VH) (G' : List (List Nat)) (c' d' e' f' g' : Option T), gbody (gst z0 n W H h.length a b c d e f g) (h ++ rowsV G) = .nx (gst z0 n W H h.length a b c' d' e' f' g') (h' ++ rowsV G') ∧ Iq n h' ∧ h'.length = h.length ∧ Dim G' W H ∧ Mut G' W H := by
  have w0 := D.w0
  have w1 := D.w1
  have h0 := D.h0
  have h1 := D.h1
  obtain ⟨x, ha, r1, hx, A1, l1⟩ := roll_on (R := rowsV G) (k := W) A (by omega) (by omega)
  obtain ⟨y, hb, r2, hy, A2, l2⟩ := roll_on (R := rowsV G) (k := H) A1 (by omega) (by omega)
  obtain ⟨w, hc, r3, iw, A3, l3⟩ := pick_ok (R := rowsV G) A2
  have r4 := shift_ok iw (hc ++ rowsV G)
  have L : hc.length = h.length := by rw [l3, l2, l1]
  obtain ⟨x', ex, hx'⟩ := mod_ix ((x : Int) + sx w) w0
  obtain ⟨y', ey, hy'⟩ := mod_ix ((y : Int) + sy w) h0
  have hx2 : x < W := by omega
  have hy2 : y < H := by omega
  have s1 : gb1 (gst z0 n W H h.length a b c d e f g) (h ++ rowsV G) = .nx (gst z0 n W H h.length a b (some (.int (x : Nat))) (some (.int (y : Nat))) (some (.int (w : Nat))) f g) (hc ++ rowsV G) := by
    simp only [gb1, gst, sPar3, aCons, aNil, eCall, eVar, eL, aLim, eK, List.getElem?_cons_succ, List.getElem?_cons_zero, r1, r2, List.length_cons, List.length_nil, Nat.reduceAdd, Nat.reduceLeDiff, if_true, r3, List.set_cons_succ, List.set_cons_zero]
  have s2 : gb2 (gst z0 n W H h.length a b (some (.int (x : Nat))) (some (.int (y : Nat))) (some (.int (w : Nat))) f g) (hc ++ rowsV G) = .nx (gst z0 n W H h.length a b (some (.int (x : Nat))) (some (.int (y : Nat))) (some (.int (w : Nat))) (some (.tup [.int (sx w), .int (sy w)])) g) (hc ++ rowsV G) := by
    simp only [gb2, gst, sSet, aCons, aNil, eCall, eVar, List.getElem?_cons_succ, List.getElem?_cons_zero, r4, List.set_cons_succ, List.set_cons_zero]
  have i0 : ∀ (p q : Int) (hh : VH), TL.bIx (.tup [.int p, .int q]) (.int 0) hh = .ok (.int p) hh := fun p q hh => rfl
  have i1 : ∀ (p q : Int) (hh : VH), TL.bIx (.tup [.int p, .int q]) (.int 1) hh = .ok (.int q) hh := fun p q hh => rfl
  have s3 : gb3 (gst z0 n W H h.length a b (some (.int (x : Nat))) (some (.int (y : Nat))) (some (.int (w : Nat))) (some (.tup [.int (sx w), .int (sy w)])) g) (hc ++ rowsV G) = .nx (gst z0 n W H h.length a b (some (.int (x : Nat))) (some (.int (y : Nat))) (some (.int (w : Nat))) (some (.tup [.int (sx w), .int (sy w)])) (some (.tup [.int (x' : Nat), .int (y' : Nat)]))) (hc ++ rowsV G) := by
    have wz : ¬ (W : Int) = 0 := by omega
    have hz : ¬ (H : Int) = 0 := by omega
    simp [gb3, gst, sSet, eTup, eOp, eK, aCons, aNil, eCall, eVar, i0, i1, TL.bAdd, bI0, bI, TL.bMod, fInt_int, ex, ey, wz, hz, w0, h0]
  have fin : gbody (gst z0 n W H h.length a b c d e f g) (h ++ rowsV G) = sIf gc (sSeq gs1 gs2) sNil (gst z0 n W H h.length a b (some (.int (x : Nat))) (some (.int (y : Nat))) (some (.int (w : Nat))) (some (.tup [.int (sx w), .int (sy w)])) (some (.tup [.int (x' : Nat), .int (y' : Nat)]))) (hc ++ rowsV G) :=
    (seq_nx s1).trans ((seq_nx s2).trans (seq_nx s3))
  have j1 : ∀ hh, TL.bIx (refsT h.length H) (.int (y : Nat)) hh = .ok (.ref (hc.length + y)) hh := fun hh => by rw [L]; exact refs_at h.length hy2 hh
  have j2 : ∀ hh, TL.bIx (refsT h.length H) (.int (y' : Nat)) hh = .ok (.ref (hc.length + y')) hh := fun hh => by rw [L]; exact refs_at h.length hy' hh
  have c1 := cell_at D (h := hc) hx2 hy2
  have c2 := cell_at D (h := hc) hx' hy'
  have ec : gc (gst z0 n W H h.length a b (some (.int (x : Nat))) (some (.int (y : Nat))) (some (.int (w : Nat))) (some (.tup [.int (sx w), .int (sy w)])) (some (.tup [.int (x' : Nat), .int (y' : Nat)]))) (hc ++ rowsV G) = .ok (!decide ((x' : Int) = x ∧ (y' : Int) = y) && (decide (cell G W H x y = 0) && decide (cell G W H x' y' = 0))) (hc ++ rowsV G) := by
    cases q1 : decide ((x' : Int) = x ∧ (y' : Int) = y) <;> cases q2 : decide (cell G W H x y = 0) <;> cases q3 : decide (cell G W H x' y' = 0) <;>
      simp only [gc, gst, TL.bAnd, bTest, eOp, eTup, eK, aCons, aNil, eVar, List.getElem?_cons_succ, List.getElem?_cons_zero, bNe_pair, q1, q2, q3, i0, i1, j1, j2, c1, c2, bEq_zero, List.length_cons, List.length_nil, Nat.reduceAdd, Nat.reduceLeDiff, if_true, Bool.not_true, Bool.not_false, Bool.and_true, Bool.and_false, Bool.false_and, Bool.true_and]
  rw [fin]
  by_cases q : (!decide ((x' : Int) = x ∧ (y' : Int) = y) && (decide (cell G W H x y = 0) && decide (cell G W H x' y' = 0))) = true
  · rw [q] at ec
    rw [if_t ec]
    simp only [Bool.and_eq_true, Bool.not_eq_true', decide_eq_false_iff_not, decide_eq_true_eq] at q
    have D1 := put_dim (x := x) (d := w) D hy2
    have t1 := set_at D (h := hc) (x := x) (y := y) (d := w) hx2 hy2
    have t2 := set_at D1 (h := hc) (x := x') (y := y') (d := 10 - w) hx' hy'
    have e10 : (10 : Int) - (w : Int) = ((10 - w : Nat) : Int) := by unfold IsW at iw; omega
    refine ⟨hc, put (put G x y w) x' y' (10 - w), some (.int (x : Nat)), some (.int (y : Nat)), some (.int (w : Nat)), some (.tup [.int (sx w), .int (sy w)]), some (.tup [.int (x' : Nat), .int (y' : Nat)]), ?_, A3, L, put_dim D1 hy', put_mut D M iw hx2 hy2 ex ey (fun z => q.1 ⟨by omega, by omega⟩) q.2.1 q.2.2⟩
    have u1 : gs1 (gst z0 n W H h.length a b (some (.int (x : Nat))) (some (.int (y : Nat))) (some (.int (w : Nat))) (some (.tup [.int (sx w), .int (sy w)])) (some (.tup [.int (x' : Nat), .int (y' : Nat)]))) (hc ++ rowsV G) = .nx (gst z0 n W H h.length a b (some (.int (x : Nat))) (some (.int (y : Nat))) (some (.int (w : Nat))) (some (.tup [.int (sx w), .int (sy w)])) (some (.tup [.int (x' : Nat), .int (y' : Nat)]))) (hc ++ rowsV (put G x y w)) := by
      simp only [gs1, gst, sAsg, mgSub, eOp, eVar, List.getElem?_cons_succ, List.getElem?_cons_zero, j1, t1]
    have u2 : gs2 (gst z0 n W H h.length a b (some (.int (x : Nat))) (some (.int (y : Nat))) (some (.int (w : Nat))) (some (.tup [.int (sx w), .int (sy w)])) (some (.tup [.int (x' : Nat), .int (y' : Nat)]))) (hc ++ rowsV (put G x y w)) = .nx (gst z0 n W H h.length a b (some (.int (x : Nat))) (some (.int (y : Nat))) (some (.int (w : Nat))) (some (.tup [.int (sx w), .int (sy w)])) (some (.tup [.int (x' : Nat), .int (y' : Nat)]))) (hc ++ rowsV (put (put G x y w) x' y' (10 - w))) := by
      simp only [gs2, gst, sAsg, mgSub, eOp, eVar, eK, List.getElem?_cons_succ, List.getElem?_cons_zero, TL.bSub, bI0, i0, i1, j2, e10, t2]
    exact (seq_nx u1).trans u2
  · rw [Bool.not_eq_true] at q
    rw [q] at ec
    rw [if_f ec]
    exact ⟨hc, G, some (.int (x : Nat)), some (.int (y : Nat)), some (.int (w : Nat)), some (.tup [.int (sx w), .int (sy w)]), some (.tup [.int (x' : Nat), .int (y' : Nat)]), rfl, A3, L, D, M⟩
theorem grid_ok {n z0 : Nat} {h : VH} (A : Iq n h) (z1 : 0 < z0) (z5 : z0 ≤ 5) : ∃ (W H : Nat) (G : List (List Nat)) (h' : VH), m_law_grid [.ref n, .int (z0 : Nat)] h = .ok (gridT G) h' ∧ Iq n h' ∧ h'.length = h.length ∧ Dim G W H ∧ Mut G W H ∧ W ≤ z0 ∧ H ≤ z0 := by
  obtain ⟨p, ha, r1, hp, A1, l1⟩ := roll_on (R := []) (k := z0) A (by omega) (by omega)
  obtain ⟨q, hb, r2, hq, A2, l2⟩ := roll_on (R := []) (k := z0) A1 (by omega) (by omega)
  simp only [List.append_nil] at r1 r2
  obtain ⟨W, hW⟩ : ∃ W, W = 1 + p := ⟨_, rfl⟩
  obtain ⟨H, hH⟩ : ∃ H, H = 1 + q := ⟨_, rfl⟩
  have e1 : (1 : Int) + (p : Nat) = (W : Nat) := by omega
  have e2 : (1 : Int) + (q : Nat) = (H : Nat) := by omega
  have wz : W ≤ z0 := by omega
  have hz : H ≤ z0 := by omega
  have w0 : 0 < W := by omega
  have w5 : W ≤ 5 := by omega
  have h0 : 0 < H := by omega
  have h5 : H ≤ 5 := by omega
  have L : hb.length = h.length := by rw [l2, l1]
  have s1 : ga1 (startT 12 [.ref n, .int (z0 : Nat)]) h = .nx [some (.ref n), some (.int (z0 : Nat)), some (.int (W : Nat)), some (.int (H : Nat)), none, none, none, none, none, none, none, none] hb := by
    have et : startT 12 [.ref n, .int (z0 : Nat)] = [some (.ref n), some (.int (z0 : Nat)), none, none, none, none, none, none, none, none, none, none] := rfl
    rw [et]
    simp only [ga1, sAsg, eTup, aCons, aNil, eOp, eK, eCall, eVar, List.getElem?_cons_succ, List.getElem?_cons_zero, r1, r2, TL.bAdd, bI0, bI, e1, e2, mgTup, mgsCons, mgName, mgsNil, List.length_cons, List.length_nil, Nat.reduceAdd, Nat.reduceLeDiff, if_true, List.set_cons_succ, List.set_cons_zero]
  have s2 : ga2 [some (.ref n), some (.int (z0 : Nat)), some (.int (W : Nat)), some (.int (H : Nat)), none, none, none, none, none, none, none, none] hb = .nx (gst z0 n W H hb.length none none none none none none none) (hb ++ rowsV (List.replicate H (List.replicate W 0))) := by
    have z := lcL_fresh (rd := fun _ => some (rangeT 0 H)) (g := mgName 5) (e := eH (mMul (eL (aLim (aCons (eK (.int 0)) aNil))) (eVar 2))) (τ := [some (.ref n), some (.int (z0 : Nat)), some (.int (W : Nat)), some (.int (H : Nat)), none, none, none, none, none, none, none, none]) (ts := rangeT 0 H) (fun _ => rfl) (xs := (List.replicate W [T.int 0]).flatten) (fun t _ hh => ⟨[some (.ref n), some (.int (z0 : Nat)), some (.int (W : Nat)), some (.int (H : Nat)), none, some t, none, none, none, none, none, none], rfl, by
      have c : 1 * ((W : Nat) : Int).toNat ≤ 16777216 ∧ (-1000000000 : Int) ≤ (W : Nat) ∧ ((W : Nat) : Int) ≤ 1000000000 := by
        rw [Int.toNat_natCast]
        omega
      simp only [eH, mMul, eL, aLim, aCons, aNil, eK, eVar, List.getElem?_cons_succ, List.getElem?_cons_zero, List.length_cons, List.length_nil, Nat.reduceAdd, Nat.reduceLeDiff, if_true, TL.listOf]
      rw [if_pos c, Int.toNat_natCast]⟩) H 0 [] hb (by rw [range_len]; omega)
    have em : iRange1 (aCons (eVar 3) aNil) [some (.ref n), some (.int (z0 : Nat)), some (.int (W : Nat)), some (.int (H : Nat)), none, none, none, none, none, none, none, none] hb = .ok (fun _ => some (rangeT 0 H)) hb := by
      simp only [iRange1, aCons, aNil, eVar, List.getElem?_cons_succ, List.getElem?_cons_zero]
      rw [if_pos ⟨by omega, by omega⟩, Int.toNat_natCast]
    have ew : wipeT [some (.ref n), some (.int (z0 : Nat)), some (.int (W : Nat)), some (.int (H : Nat)), none, none, none, none, none, none, none, none] [5] = [some (.ref n), some (.int (z0 : Nat)), some (.int (W : Nat)), some (.int (H : Nat)), none, none, none, none, none, none, none, none] := rfl
    have er : rowsV (List.replicate H (List.replicate W 0)) = List.replicate H (VO.lst (List.replicate W [T.int 0]).flatten) := by
      unfold rowsV
      rw [List.map_replicate, List.map_replicate]
      congr 1
      have : (List.replicate W [T.int 0]).flatten = List.replicate W (T.int 0) := by
        exact flat_one W (T.int 0)
      rw [this]
      rfl
    rw [range_len] at z
    unfold ga2
    refine (set_ok (t := refsT hb.length H) (h1 := hb ++ rowsV (List.replicate H (List.replicate W 0))) ?_).trans rfl
    refine eL_ok ?_
    unfold mLc
    rw [em]
    simp only [range_len]
    rw [if_pos (by omega), ew, z, er]
    rfl
  have wh : W * H ≤ 25 := Nat.mul_le_mul w5 h5
  have cm : cMul (W : Int) (H : Int) = true := by
    unfold cMul
    rw [Bool.or_eq_true, Bool.and_eq_true]
    exact .inl ⟨decide_eq_true (by omega), decide_eq_true (by omega)⟩
  have D0 := zero_dim (W := W) (H := H) w0 (by omega) h0 (by omega)
  have M0 := zero_mut (W := W) (H := H) w0 h0
  obtain ⟨K, hK⟩ : ∃ K, K = 2 + W * H := ⟨_, rfl⟩
  have ez : (2 : Int) + (W : Int) * (H : Int) = (K : Int) := by rw [hK, Int.natCast_add, Int.natCast_mul]; rfl
  have kl : K ≤ 27 := by omega
  clear hK
  have e3 : aCons (eOp TL.bAdd (eK (.int 2)) (eOp TL.bMul (eVar 2) (eVar 3))) aNil (gst z0 n W H hb.length none none none none none none none) (hb ++ rowsV (List.replicate H (List.replicate W 0))) = .ok [.int (K : Nat)] (hb ++ rowsV (List.replicate H (List.replicate W 0))) := by
    refine cons_ok (t := .int (K : Nat)) (h1 := hb ++ rowsV (List.replicate H (List.replicate W 0))) ?_ rfl
    refine (op_ok (t := .int 2) (u := .int ((W : Int) * (H : Int))) rfl ((op_ok rfl rfl).trans (mul_small _ cm))).trans ?_
    rw [add_int, ez]
  obtain ⟨τ', h', q1, q2⟩ := sFor_inv (mi := iRange1 (aCons (eOp TL.bAdd (eK (.int 2)) (eOp TL.bMul (eVar 2) (eVar 3))) aNil)) (g := mgName 6) (body := gbody) (τ := gst z0 n W H hb.length none none none none none none none) (h := hb ++ rowsV (List.replicate H (List.replicate W 0))) (h1 := hb ++ rowsV (List.replicate H (List.replicate W 0)))
    (rd := fun _ => some (rangeT 0 K)) (ts := rangeT 0 K) (fun _ τ h' => ∃ (a b c d e f g : Option T) (h1 : VH) (G : List (List Nat)), τ = gst z0 n W H hb.length a b c d e f g ∧ h' = h1 ++ rowsV G ∧ Iq n h1 ∧ h1.length = hb.length ∧ Dim G W H ∧ Mut G W H)
    (by
      exact rng_ok e3 (by omega)) ⟨none, none, none, none, none, none, none, hb, _, rfl, rfl, A2, rfl, D0, M0⟩ (fun _ _ _ _ => rfl) (fun i hi τ h' I => by
      obtain ⟨a, b, c, d, e, f, g, k1, G, rfl, rfl, B, lk, D, M⟩ := I
      obtain ⟨k2, G2, c', d', e', f', g', z, B2, lk2, D2, M2⟩ := gb_ok D M B a (some (rangeT 0 K)[i]) c d e f g
      rw [lk] at z
      exact ⟨gst z0 n W H hb.length a (some (rangeT 0 K)[i]) c d e f g, k1 ++ rowsV G, _, _, rfl, .inl z, a, _, c', d', e', f', g', k2, G2, rfl, rfl, B2, by rw [lk2, lk], D2, M2⟩)
  obtain ⟨a, b, c, d, e, f, g, k1, G, rfl, rfl, B, lk, D, M⟩ := q2
  refine ⟨W, H, G, k1, ?_, B, by rw [lk, L], D, M, wz, hz⟩
  have fin : defM 12 2 s_law_grid [.ref n, .int (z0 : Nat)] h = .ok (refsT hb.length H) (k1 ++ rowsV G) := by
    rw [grid_eq]
    exact defM_rt rfl ((seq_nx s1).trans ((seq_nx s2).trans ((seq_nx q1).trans (ret_ok rfl))))
  have lh : k1.length = h.length := by rw [lk, L]
  have ht : (k1 ++ rowsV G).take h.length = k1 := by rw [← lh]; simp
  have fz : frz h.length (k1 ++ rowsV G) 4 (refsT hb.length H) = some (gridT G) := by
    rw [L]
    have nl : (refsT h.length H).lowR h.length = false := by
      obtain ⟨m, rfl⟩ : ∃ m, H = m + 1 := ⟨H - 1, by omega⟩
      unfold refsT
      rw [List.range_succ_eq_map, List.map_cons]
      simp [T.lowR, lowRs]
    have one : ∀ j, j < H → frz h.length (k1 ++ rowsV G) 3 (.ref (h.length + j)) = some (.lst ((G.getD j []).map fun d => T.int (d : Nat))) := by
      intro j hj
      have g0 := rowsV_at D (h := k1) hj
      rw [lh] at g0
      have lw : (T.ref (h.length + j)).lowR h.length = false := by simp [T.lowR]
      have li : ∀ t ∈ (G.getD j []).map (fun d => T.int (d : Nat)), frz h.length (k1 ++ rowsV G) 2 t = some (id t) := by
        intro t ht
        obtain ⟨d, _, rfl⟩ := List.mem_map.mp ht
        rfl
      unfold frz
      rw [lw]
      simp only [Bool.false_eq_true, if_false, g0]
      rw [mapM_some li]
      simp
    unfold refsT at nl ⊢
    unfold frz
    rw [nl]
    simp only [Bool.false_eq_true, if_false]
    have all : ∀ t ∈ (List.range H).map (fun j => T.ref (h.length + j)), frz h.length (k1 ++ rowsV G) 3 t = some ((fun u => match u with | .ref m => T.lst ((G.getD (m - h.length) []).map fun d => T.int (d : Nat)) | u => u) t) := by
      intro t ht
      obtain ⟨j, hj, rfl⟩ := List.mem_map.mp ht
      rw [one j (List.mem_range.mp hj)]
      simp
    rw [mapM_some all, List.map_map]
    unfold gridT
    refine congrArg (fun l => some (T.lst l)) ?_
    apply List.ext_getElem (by simp [D.len])
    intro i h1 h2
    have hi : i < G.length := by simpa using h2
    simp [List.getD_eq_getElem?_getD, List.getElem?_eq_getElem hi]
  unfold m_law_grid cutM
  rw [fin]
  have lw := B.low (m := h.length) (by omega)
  simp only [ht, lw, if_true, fz]
end
end PG
set_option Elab.async false
set_option linter.all false
set_option maxRecDepth 100000
set_option maxHeartbeats 400000
namespace PG
open PySem L2 TL KG K33
section
theorem purse_eq (c : Int) (h : VH) : ∃ o, m_law_purse [.int c] h = .ok (.ref h.length) (h ++ [o]) ∧ IsP o := by
  have hm : cMul c 48271 = true := by
    unfold cMul
    rw [Bool.or_eq_true, Bool.and_eq_true, Bool.and_eq_true]
    exact .inr ⟨by decide, by decide⟩
  have key : ∃ a, m_law_purse [.int c] h = .ok (.ref h.length) (h ++ [pur a ((c * 48271 + 11) % 2147483543) 0]) := by
    by_cases q : c < 0
    · exact ⟨-c, by simp [m_law_purse, s_law_purse, defM, startT, sSeq, sSet, sRet, sIf, sExpr, sNil, sAsg, sPar, sPar3, eVar, eK, eOp, eCall, mCall, eL, eH, aLim, aNil, aCons, aStar, eTup, eIf, bTest, TL.bAnd, TL.bOr, TL.bNot, bYes, eAnd, eOr, eNot, eNeg, eChain, eFld, getI, mgName, mgTup, mgsCons, mgsNil, mgSub, bSub, bMod, bFdv, bPow, bI, bI0, bAdd, bMul, bLt, bLe, bGt, bGe, bOrdG, bIs, bIsn, bIsG, TL.isNon, bIx, bSetL, fLen, fList, fTuple, fMax2, fMin2, fII, fAbs, fInt, fDivmod, TL.listOf, seqOf, tupOf, atI, ixN, List.getElem?_cons_zero, List.getElem?_cons_succ, List.set_cons_zero, List.set_cons_succ, List.map, List.length_cons, List.length_nil, List.replicate, List.append_nil, List.cons_append, List.nil_append, Option.bind_some, Option.bind, hm, q, pur]⟩
    · by_cases p : 1000000000000000000 ≤ c
      · exact ⟨c, by simp [m_law_purse, s_law_purse, defM, startT, sSeq, sSet, sRet, sIf, sExpr, sNil, sAsg, sPar, sPar3, eVar, eK, eOp, eCall, mCall, eL, eH, aLim, aNil, aCons, aStar, eTup, eIf, bTest, TL.bAnd, TL.bOr, TL.bNot, bYes, eAnd, eOr, eNot, eNeg, eChain, eFld, getI, mgName, mgTup, mgsCons, mgsNil, mgSub, bSub, bMod, bFdv, bPow, bI, bI0, bAdd, bMul, bLt, bLe, bGt, bGe, bOrdG, bIs, bIsn, bIsG, TL.isNon, bIx, bSetL, fLen, fList, fTuple, fMax2, fMin2, fII, fAbs, fInt, fDivmod, TL.listOf, seqOf, tupOf, atI, ixN, List.getElem?_cons_zero, List.getElem?_cons_succ, List.set_cons_zero, List.set_cons_succ, List.map, List.length_cons, List.length_nil, List.replicate, List.append_nil, List.cons_append, List.nil_append, Option.bind_some, Option.bind, hm, q, p, pur]⟩
      · exact ⟨0, by simp [m_law_purse, s_law_purse, defM, startT, sSeq, sSet, sRet, sIf, sExpr, sNil, sAsg, sPar, sPar3, eVar, eK, eOp, eCall, mCall, eL, eH, aLim, aNil, aCons, aStar, eTup, eIf, bTest, TL.bAnd, TL.bOr, TL.bNot, bYes, eAnd, eOr, eNot, eNeg, eChain, eFld, getI, mgName, mgTup, mgsCons, mgsNil, mgSub, bSub, bMod, bFdv, bPow, bI, bI0, bAdd, bMul, bLt, bLe, bGt, bGe, bOrdG, bIs, bIsn, bIsG, TL.isNon, bIx, bSetL, fLen, fList, fTuple, fMax2, fMin2, fII, fAbs, fInt, fDivmod, TL.listOf, seqOf, tupOf, atI, ixN, List.getElem?_cons_zero, List.getElem?_cons_succ, List.set_cons_zero, List.set_cons_succ, List.map, List.length_cons, List.length_nil, List.replicate, List.append_nil, List.cons_append, List.nil_append, Option.bind_some, Option.bind, hm, q, p, pur]⟩
  obtain ⟨a, e⟩ := key
  exact ⟨_, e, _, _, _, rfl, Int.emod_nonneg _ (by omega), Int.emod_lt_of_pos _ (by omega)⟩
theorem cell_ok (ns : List Int) (hl : ns.length ≤ 63) (k : Nat) (hk : k < 10) (h : VH) : ∃ v, m_law_cell [.arg (ns.map T.int), .int (k : Nat)] h = .ok (.int v) h := by
  by_cases q : k < ns.length
  · refine ⟨ns[k], ?_⟩
    have e : atI (ns.map T.int) ((k : Nat) : Int) = some (.int ns[k]) := by
      rw [ix_nn (by omega) (by rw [List.length_map]; omega), Int.toNat_natCast, List.getElem?_map, List.getElem?_eq_getElem q]
      rfl
    have e2 : TL.bIx (.arg (ns.map T.int)) (.int (k : Nat)) h = .ok (.int ns[k]) h := by simp only [TL.bIx, e]
    have et : startT 4 [.arg (ns.map T.int), .int (k : Nat)] = [some (.arg (ns.map T.int)), some (.int (k : Nat)), none, none] := rfl
    have q2 : ((k : Nat) : Int) < (ns.length : Nat) := by omega
    refine defM_rt rfl (seq_rt ?_)
    rw [et]
    refine (if_t (h1 := h) ?_).trans (ret_ok ((op_ok rfl rfl).trans e2))
    refine test_ok (h1 := h) ((op_ok (u := .int (ns.length : Nat)) (h2 := h) rfl ?_).trans ?_)
    · refine (call_ok (ts := [.arg (ns.map T.int)]) rfl).trans ?_
      simp only [fLen, seqOf, List.length_map]
    · simp only [TL.bLt, bOrdG, q2, decide_true]
  · have q2 : ¬ ((k : Nat) : Int) < (ns.length : Nat) := by omega
    have et : startT 4 [.arg (ns.map T.int), .int (k : Nat)] = [some (.arg (ns.map T.int)), some (.int (k : Nat)), none, none] := rfl
    have S1 : sIf (bTest (eOp TL.bLt (eVar 1) (eCall fLen (aCons (eVar 0) aNil)))) (sRet (eOp TL.bIx (eVar 0) (eVar 1))) sNil [some (.arg (ns.map T.int)), some (.int (k : Nat)), none, none] h = .nx [some (.arg (ns.map T.int)), some (.int (k : Nat)), none, none] h := by
      refine (if_f (h1 := h) ?_).trans rfl
      refine test_ok (h1 := h) ((op_ok (u := .int (ns.length : Nat)) (h2 := h) rfl ?_).trans ?_)
      · refine (call_ok (ts := [.arg (ns.map T.int)]) rfl).trans ?_
        simp only [fLen, seqOf, List.length_map]
      · simp only [TL.bLt, bOrdG, q2, decide_false]
    have cR : ∀ (v w : Int), -1000000000000000000 < w → w < 1000000000000000000 → cMul v w = true := fun v w a b => by
      unfold cMul
      rw [Bool.or_eq_true, Bool.and_eq_true, Bool.and_eq_true]
      exact .inr ⟨decide_eq_true a, decide_eq_true b⟩
    have cL : ∀ (v w : Int), -1000000000000000000 < v → v < 1000000000000000000 → cMul v w = true := fun v w a b => by
      unfold cMul
      rw [Bool.or_eq_true, Bool.and_eq_true, Bool.and_eq_true]
      exact .inl ⟨decide_eq_true a, decide_eq_true b⟩
    have md : ∀ (v : Int) (hh : VH), TL.bMod (.int v) (.int 2147483543) hh = .ok (.int (v % 2147483543)) hh := fun v hh => rfl
    obtain ⟨v0, S2⟩ : ∃ v0, sSet 2 (eOp TL.bMod (eCall fInt (aCons (eOp TL.bMul (eK (.int 52361)) (eOp TL.bAdd (eOp TL.bAdd (eOp TL.bMul (eVar 1) (eVar 1)) (eOp TL.bMul (eK (.int 7)) (eVar 1))) (eK (.int 13)))) aNil)) (eK (.int 2147483543))) [some (.arg (ns.map T.int)), some (.int (k : Nat)), none, none] h = .nx [some (.arg (ns.map T.int)), some (.int (k : Nat)), some (.int v0), none] h := by
      refine ⟨_, (set_ok (op_ok (t := .int (52361 * ((k : Int) * (k : Int) + 7 * (k : Int) + 13))) (h1 := h) ?_ rfl |>.trans (md _ h))).trans rfl⟩
      refine (call_ok (cons_ok (t := .int (52361 * ((k : Int) * (k : Int) + 7 * (k : Int) + 13))) (h1 := h) ?_ rfl)).trans (fInt_int _ h)
      refine (op_ok (t := .int 52361) (u := .int ((k : Int) * (k : Int) + 7 * (k : Int) + 13)) (h2 := h) rfl ?_).trans (mul_small h (cL _ _ (by omega) (by omega)))
      refine (op_ok (t := .int ((k : Int) * (k : Int) + 7 * (k : Int))) (u := .int 13) (h2 := h) ?_ rfl).trans (add_int _ _ h)
      refine (op_ok (t := .int ((k : Int) * (k : Int))) (u := .int (7 * (k : Int))) (h1 := h) (h2 := h) ?_ ?_).trans (add_int _ _ h)
      · exact (op_ok (t := .int (k : Nat)) (u := .int (k : Nat)) (h2 := h) rfl rfl).trans (mul_small h (cL _ _ (by omega) (by omega)))
      · exact (op_ok (t := .int 7) (u := .int (k : Nat)) (h2 := h) rfl rfl).trans (mul_small h (cL _ _ (by omega) (by omega)))
    obtain ⟨ms, em⟩ : ∃ ms : List Int, cutT (ns.map T.int) none (some 3) = ms.map T.int := by
      unfold cutT
      rw [← List.map_drop, ← List.map_take]
      exact ⟨_, rfl⟩
    obtain ⟨τ', h', S3, I⟩ := sFor_inv (mi := iSeqC (eSl (eVar 0) oNo (oSome (eK (.int 3))))) (g := mgName 3) (body := sSet 2 (eOp TL.bMod (eCall fInt (aCons (eOp TL.bAdd (eOp TL.bAdd (eOp TL.bMul (eVar 2) (eK (.int 44087))) (eOp TL.bMul (eVar 3) (eK (.int 5)))) (eK (.int 1201))) aNil)) (eK (.int 2147483543)))) (τ := [some (.arg (ns.map T.int)), some (.int (k : Nat)), some (.int v0), none]) (h := h) (h1 := h)
      (rd := fun h => seqS h (.lst (ms.map T.int))) (ts := ms.map T.int) (fun _ τ h' => h' = h ∧ ∃ (v : Int) (c : Option T), τ = [some (.arg (ns.map T.int)), some (.int (k : Nat)), some (.int v), c])
      (by simp only [iSeqC, eSl, eVar, oNo, oSome, eK, List.getElem?_cons_zero, TL.bSl, em, walkable, seqS, seqOf, TL.listOf, Option.isSome, if_true]) ⟨rfl, v0, none, rfl⟩ (fun _ _ _ _ => rfl) (fun i hi τ h' I => by
        obtain ⟨rfl, v, c, rfl⟩ := I
        have hi2 : i < ms.length := by simpa using hi
        have e : (ms.map T.int)[i] = .int ms[i] := List.getElem_map ..
        rw [e]
        generalize ms[i] = m
        refine ⟨[some (.arg (ns.map T.int)), some (.int (k : Nat)), some (.int v), some (.int m)], h', [some (.arg (ns.map T.int)), some (.int (k : Nat)), some (.int ((v * 44087 + m * 5 + 1201) % 2147483543)), some (.int m)], h', rfl, .inl ?_, rfl, _, _, rfl⟩
        refine (set_ok (op_ok (t := .int (v * 44087 + m * 5 + 1201)) (h1 := h') ?_ rfl |>.trans (md _ h'))).trans rfl
        refine (call_ok (cons_ok (t := .int (v * 44087 + m * 5 + 1201)) (h1 := h') ?_ rfl)).trans (fInt_int _ h')
        refine (op_ok (t := .int (v * 44087 + m * 5)) (u := .int 1201) (h2 := h') ?_ rfl).trans (add_int _ _ h')
        refine (op_ok (t := .int (v * 44087)) (u := .int (m * 5)) (h1 := h') (h2 := h') ?_ ?_).trans (add_int _ _ h')
        · exact (op_ok (t := .int v) (u := .int 44087) (h2 := h') rfl rfl).trans (mul_small h' (cR _ _ (by omega) (by omega)))
        · exact (op_ok (t := .int m) (u := .int 5) (h2 := h') rfl rfl).trans (mul_small h' (cR _ _ (by omega) (by omega))))
    obtain ⟨rfl, v, c, rfl⟩ := I
    refine ⟨v, defM_rt rfl ?_⟩
    rw [et]
    exact (seq_nx S1).trans ((seq_nx S2).trans ((seq_nx S3).trans (ret_ok rfl)))
theorem law_ok {mc : List T → VH → Res T} {L : Nat} (hL : L < 10) (case_ok : ∀ {n : Nat} {h : VH}, Iq n h → ∃ h', mc [.ref n] h = .ok (.bl true) h' ∧ ∀ o ∈ h', ∀ m, h'.length ≤ m → VO.lowR m o = true) (ns : List Int) (hl : ns.length ≤ 63) :
    ∃ h', defM 2 1 (sSeq (sFor (iRange1 (aCons (eCall fMax2 (aCons (eK (.int 2)) (aCons (eCall fMin2 (aCons (eCall fLen (aCons (eVar 0) aNil)) (aCons (eK (.int (L : Nat))) aNil))) aNil))) aNil)) (mgName 1) (sIf (TL.bNot (bTest (eCall mc (aCons (eCall m_law_purse (aCons (eCall m_law_cell (aCons (eVar 0) (aCons (eVar 1) aNil))) aNil)) aNil)))) (sRet (eK (.bl false))) sNil)) (sRet (eK (.bl true)))) [.arg (ns.map T.int)] [] = .ok (.bl true) h' := by
  obtain ⟨K, hK⟩ : ∃ K : Nat, K = max 2 (min ns.length L) := ⟨_, rfl⟩
  have K4 : K ≤ 10 := by omega
  have e3 : aCons (eCall fMax2 (aCons (eK (.int 2)) (aCons (eCall fMin2 (aCons (eCall fLen (aCons (eVar 0) aNil)) (aCons (eK (.int (L : Nat))) aNil))) aNil))) aNil [some (.arg (ns.map T.int)), none] [] = .ok [.int (K : Nat)] [] := by
    have a1 : eCall fLen (aCons (eVar 0) aNil) [some (.arg (ns.map T.int)), none] [] = .ok (.int (ns.length : Nat)) [] := by
      refine (call_ok (ts := [.arg (ns.map T.int)]) rfl).trans ?_
      simp only [fLen, seqOf, List.length_map]
    have a2 : fMin2 [.int (ns.length : Nat), (.int (L : Nat))] [] = .ok (.int (min ns.length L : Nat)) [] := by
      unfold fMin2 fII
      simp only
      refine congrArg (fun i => Res.ok (T.int i) []) ?_
      split <;> omega
    have a3 : fMax2 [.int 2, .int (min ns.length L : Nat)] [] = .ok (.int (K : Nat)) [] := by
      unfold fMax2 fII
      simp only
      refine congrArg (fun i => Res.ok (T.int i) []) ?_
      split <;> omega
    exact cons_ok ((call_ok (cons_ok rfl (cons_ok ((call_ok (cons_ok a1 (cons_ok rfl rfl))).trans a2) rfl))).trans a3) rfl
  obtain ⟨τ', h', q1, q2⟩ := sFor_inv (mi := iRange1 (aCons (eCall fMax2 (aCons (eK (.int 2)) (aCons (eCall fMin2 (aCons (eCall fLen (aCons (eVar 0) aNil)) (aCons (eK (.int (L : Nat))) aNil))) aNil))) aNil)) (g := mgName 1) (body := (sIf (TL.bNot (bTest (eCall mc (aCons (eCall m_law_purse (aCons (eCall m_law_cell (aCons (eVar 0) (aCons (eVar 1) aNil))) aNil)) aNil)))) (sRet (eK (.bl false))) sNil)) (τ := [some (.arg (ns.map T.int)), none]) (h := []) (h1 := []) (rd := fun _ => some (rangeT 0 K)) (ts := rangeT 0 K)
    (fun _ τ h' => (∀ o ∈ h', ∀ m, h'.length ≤ m → VO.lowR m o = true) ∧ ∃ c, τ = [some (.arg (ns.map T.int)), c]) (rng_ok e3 (by omega)) ⟨fun o ho => (by cases ho), none, rfl⟩ (fun _ _ _ _ => rfl) (fun i hi τ h' I => by
      obtain ⟨A, c, rfl⟩ := I
      obtain ⟨hi2, ei⟩ := range_at hi
      rw [ei, Int.zero_add]
      obtain ⟨v, r1⟩ := cell_ok ns hl i (by omega) h'
      obtain ⟨o, r2, io⟩ := purse_eq v h'
      obtain ⟨h3, r3, A3⟩ := case_ok (Iq.new A io)
      refine ⟨[some (.arg (ns.map T.int)), some (.int (i : Nat))], h', [some (.arg (ns.map T.int)), some (.int (i : Nat))], h3, rfl, .inl ?_, A3, _, rfl⟩
      refine (if_f (h1 := h3) ?_).trans rfl
      have b : bTest (eCall mc (aCons (eCall m_law_purse (aCons (eCall m_law_cell (aCons (eVar 0) (aCons (eVar 1) aNil))) aNil)) aNil)) [some (.arg (ns.map T.int)), some (.int (i : Nat))] h' = .ok true h3 :=
        test_ok ((call_ok (cons_ok ((call_ok (cons_ok ((call_ok (ts := [.arg (ns.map T.int), .int (i : Nat)]) rfl).trans r1) rfl)).trans r2) rfl)).trans r3)
      unfold TL.bNot
      rw [b]
      rfl)
  obtain ⟨_, c, rfl⟩ := q2
  exact ⟨h', defM_rt rfl ((seq_nx q1).trans (ret_ok rfl))⟩
end
end PG
set_option Elab.async false
set_option linter.all false
set_option maxRecDepth 100000
set_option maxHeartbeats 4000000
namespace TL
open PySem PySem.Spec L2
section
variable {τ : TS_} {h h1 : VH} {p q : Bool} {c d : MB} {f g k : ME} {b b' : T → T → VH → Res T} {x y z t : T}
theorem hLe (i j : Int) (h : VH) : bLe (.int i) (.int j) h = .ok (.bl (decide (i ≤ j))) h := rfl
theorem hGt (i j : Int) (h : VH) : bGt (.int i) (.int j) h = .ok (.bl (decide (j < i))) h := rfl
theorem hAdd (i j : Int) (h : VH) : bAdd (.int i) (.int j) h = .ok (.int (i + j)) h := rfl
theorem hSub (i j : Int) (h : VH) : bSub (.int i) (.int j) h = .ok (.int (i - j)) h := rfl
theorem hEq (i j : Int) (h : VH) : bEq (.int i) (.int j) h = .ok (.bl (decide (i = j))) h := by
  unfold bEq bEqG
  simp only [dat_int, PyData.eqv]
  by_cases e : i = j
  · simp [e]
  · simp [e]
theorem hNe (i j : Int) (h : VH) : bNe (.int i) (.int j) h = .ok (.bl (!decide (i = j))) h := by
  unfold bNe bEqG
  simp only [dat_int, PyData.eqv]
  by_cases e : i = j
  · simp [e]
  · simp [e]
theorem hAll {α : Type} (l : List α) (f : α → Bool) (h : VH) : fAll [.lst (l.map fun a => T.bl (f a))] h = .ok (.bl (l.all f)) h := by
  have e : blsOf (l.map fun a => T.bl (f a)) = some (l.map f) := by
    induction l with
    | nil => rfl
    | cons a l ih => show (blsOf (l.map fun a => T.bl (f a))).map (f a :: ·) = _; rw [ih]; rfl
  simp only [fAll, fBls, TL.listOf, e]
  rw [List.all_map]
  rfl
end
end TL
set_option Elab.async false
set_option linter.all false
set_option maxRecDepth 100000
set_option maxHeartbeats 4000000
namespace EV
open PySem PySem.Spec L2 TL
section
variable {τ τ1 : TS_} {h h1 h2 h3 : VH} {t u v : T} {ts us : List T} {p q : Bool} {c d : MB} {e f g k : ME} {a b : MA} {s s2 : MS} {i j : Nat} {r : Res T} {o : Out}
theorem var (w : τ[i]? = some (some t)) : eVar i τ h = .ok t h := by unfold eVar; rw [w]
theorem const : eK t τ h = .ok t h := rfl
theorem nil : aNil τ h = .ok [] h := rfl
theorem lim (w : a τ h = .ok ts h1) (l : ts.length ≤ 16777216) : aLim a τ h = .ok ts h1 := by unfold aLim; rw [w]; exact if_pos l
theorem tup (w : a τ h = .ok ts h1) (l : ts.length ≤ 16777216) : eTup a τ h = .ok (.tup ts) h1 := by unfold eTup; rw [w]; exact if_pos l
theorem lst (w : a τ h = .ok ts h1) : eL a τ h = .ok (.lst ts) h1 := by unfold eL; rw [w]
theorem hp (w : a τ h = .ok ts h1) : eH a τ h = .ok (.ref h1.length) (h1 ++ [.lst ts]) := by unfold eH; rw [w]
theorem op {m : T → T → VH → Res T} (w1 : f τ h = .ok t h1) (w2 : g τ h1 = .ok u h2) (w3 : m t u h2 = r) : eOp m f g τ h = r := by unfold eOp; simp only [w1, w2, w3]
theorem call {m : List T → VH → Res T} (w1 : a τ h = .ok ts h1) (w2 : m ts h1 = r) : eCall m a τ h = r := by unfold eCall; simp only [w1, w2]
theorem cons (w1 : f τ h = .ok t h1) (w2 : a τ h1 = .ok ts h2) : aCons f a τ h = .ok (t :: ts) h2 := cons_ok w1 w2
theorem perm {ix : List Nat} (w1 : a τ h = .ok ts h1) (w2 : permL ix ts = us) : aPerm ix a τ h = .ok us h1 := by unfold aPerm; rw [w1, ← w2]
theorem sl {lo hi : MO} {l y : Option Int} (w1 : f τ h = .ok t h1) (w2 : lo τ h1 = .ok l h2) (w3 : hi τ h2 = .ok y h3) (w4 : bSl t l y h3 = r) : eSl f lo hi τ h = r := by unfold eSl; simp only [w1, w2, w3, w4]
theorem ono : oNo τ h = .ok none h := rfl
theorem osome {z : Int} (w : f τ h = .ok (.int z) h1) : oSome f τ h = .ok (some z) h1 := by unfold oSome; simp only [w]
theorem fld {c n : Nat} {fs : List T} (w : f τ h = .ok t h1) (w2 : getI h1 t = some (c, fs)) (w3 : fs[n]? = some u) : eFld c n f τ h = .ok u h1 := by unfold eFld; simp only [w, w2, w3, if_pos]
theorem prop {c : Nat} {fs : List T} {m : List T → VH → Res T} (w : f τ h = .ok t h1) (w2 : getI h1 t = some (c, fs)) (w3 : m [t] h1 = r) : eProp c m f τ h = r := by unfold eProp; simp only [w, w2, w3, if_pos]
theorem meth {c : Nat} {fs : List T} {m : List T → VH → Res T} (w : f τ h = .ok t h1) (w2 : getI h1 t = some (c, fs)) (w3 : a τ h1 = .ok ts h2) (w4 : m (t :: ts) h2 = r) : eMeth c m f a τ h = r := by unfold eMeth; simp only [w, w2, w3, w4, if_pos]
theorem mt {ty : String} {m : T → List T → VH → Res T} (w : f τ h = .ok t h1) (w2 : tyT h1 ty t = true) (w3 : a τ h1 = .ok ts h2) (w4 : m t ts h2 = r) : eMt ty m f a τ h = r := by unfold eMt; simp only [w, w2, w3, w4, if_pos]
theorem isi {y x : TyC} (w : f τ h = .ok t h1) (w2 : tyOf h1 t = some x) : eIsi y f τ h = .ok (.bl (isiB x y)) h1 := by unfold eIsi; simp only [w, w2]
theorem test (w : f τ h = .ok (.bl p) h1) : bTest f τ h = .ok p h1 := test_ok w
theorem not (w : c τ h = .ok p h1) : TL.bNot c τ h = .ok (!p) h1 := by unfold TL.bNot; simp only [w]
theorem band {r : Res Bool} (w : c τ h = .ok p h1) (w2 : (if p = true then d τ h1 else .ok false h1) = r) : TL.bAnd c d τ h = r := by rw [← w2]; unfold TL.bAnd; simp only [w]; cases p <;> rfl
theorem bor {r : Res Bool} (w : c τ h = .ok p h1) (w2 : (if p = true then .ok true h1 else d τ h1) = r) : TL.bOr c d τ h = r := by rw [← w2]; unfold TL.bOr; simp only [w]; cases p <;> rfl
theorem eand (w : f τ h = .ok (.bl p) h1) (w2 : (if p = true then g τ h1 else .ok (.bl false) h1) = r) : eAnd f g τ h = r := by rw [← w2]; unfold eAnd; simp only [w]; cases p <;> rfl
theorem eif (w : c τ h = .ok p h1) (w2 : (if p = true then f τ h1 else g τ h1) = r) : eIf c f g τ h = r := by rw [← w2]; unfold eIf; simp only [w]; cases p <;> rfl
theorem seqr (w1 : s τ h = .rt t h1) : sSeq s s2 τ h = .rt t h1 := seq_rt w1
theorem ret (w : f τ h = .ok t h1) : sRet f τ h = .rt t h1 := ret_ok w
theorem ex (w : f τ h = .ok t h1) : sExpr f τ h = .nx τ h1 := by unfold sExpr; rw [w]
theorem set (w : f τ h = .ok t h1) (w2 : τ.set i (some t) = τ1) : sSet i f τ h = .nx τ1 h1 := by rw [set_ok w, w2]
theorem par (w : a τ h = .ok [t, u] h1) (w2 : (τ.set i (some t)).set j (some u) = τ1) : sPar i j a τ h = .nx τ1 h1 := by unfold sPar; simp only [w, w2]
theorem lenL : fLen [.lst ts] h = .ok (.int (ts.length : Nat)) h := rfl
theorem addL (l : ts.length + us.length ≤ 16777216) : TL.bAdd (.lst ts) (.lst us) h = .ok (.lst (ts ++ us)) h := if_pos l
theorem ixT {z : Int} (w : atI ts z = some t) : TL.bIx (.tup ts) (.int z) h = .ok t h := by simp only [TL.bIx, w]
theorem ixL {z : Int} (w : atI ts z = some t) : TL.bIx (.lst ts) (.int z) h = .ok t h := by simp only [TL.bIx, TL.listOf, w]
theorem at_nat (w : ts[i]? = some t) : atI ts ((i : Nat) : Int) = some t := by
  have l := (List.getElem?_eq_some_iff.mp w).1
  rw [ix_nn (by omega) (by omega), Int.toNat_natCast, w]
end
end EV
set_option Elab.async false
set_option linter.all false
set_option maxRecDepth 100000
set_option maxHeartbeats 4000000
namespace EV
open PySem PySem.Spec L2 TL
section
variable {τ τ1 : TS_} {h h1 h2 : VH} {t u : T} {ts fs : List T} {p : Bool} {c : Nat} {k : MB} {f g : MX} {e : MEX} {m : ME} {a : MA} {s : MS} {o : Oux} {r : ResX} {n l i : Nat} {us : List T}
theorem dfxc (hl : us.length = l) (w : f (startT n us) h = .xc c fs τ h1) : defX n l f us h = .xc c fs h1 := by unfold defX; rw [if_pos hl, w]
theorem dfxn (hl : us.length = l) (w : f (startT n us) h = .o (.nx τ h1)) : defX n l f us h = .ok .non h1 := by unfold defX; rw [if_pos hl, w]
theorem xl {q : Out} (w : s τ h = q) : mxL s τ h = .o q := by unfold mxL; rw [w]
theorem xsq (w1 : f τ h = .o (.nx τ1 h1)) (w2 : g τ1 h1 = o) : mxSeq f g τ h = o := by unfold mxSeq; rw [w1]; exact w2
theorem xsqc (w : f τ h = .xc c fs τ1 h1) : mxSeq f g τ h = .xc c fs τ1 h1 := by unfold mxSeq; rw [w]
theorem xitt (w : k τ h = .ok true h1) (w2 : f τ h1 = o) : mxIf k f g τ h = o := by unfold mxIf; rw [w]; exact w2
theorem xitf (w : k τ h = .ok false h1) (w2 : g τ h1 = o) : mxIf k f g τ h = o := by unfold mxIf; rw [w]; exact w2
theorem xrs (w : m τ h = .ok t h1) : mxRaise c m τ h = .xc c [t] τ h1 := by unfold mxRaise; rw [w]
theorem xcall {q : List T → VH → ResX} (w1 : a τ h = .ok ts h1) (w2 : q ts h1 = r) : eCallX q a τ h = r := by unfold eCallX; rw [w1]; exact w2
theorem xmk {q : List T → VH → ResX} {cl : Nat} (w : q (.ref h.length :: ts) (h ++ [.ins cl []]) = .ok .non h1) : makeX cl q ts h = .ok (.ref h.length) h1 := by unfold makeX; rw [w]
theorem xmkc {q : List T → VH → ResX} {cl : Nat} (w : q (.ref h.length :: ts) (h ++ [.ins cl []]) = .xc c fs h1) : makeX cl q ts h = .xc c fs h1 := by unfold makeX; rw [w]
end
end EV
set_option Elab.async false
set_option linter.all false
set_option maxRecDepth 100000
set_option maxHeartbeats 4000000
namespace RQ
open PySem L2 TL KG K33 PG
def isFig (c : Nat) : Bool := decide (c ∈ [48, 49, 50, 51, 52, 54, 55, 56, 57])
def rowsOf (s : Str) : List Str := Txt.split s "/"
def firstW (s : Str) : Nat := ((rowsOf s).headD ⟨#[]⟩).length
def okRow (w : Nat) (r : Str) : Bool := decide (r.length = w) && r.cps.toList.all isFig
def fits (s : Str) : Bool := decide ((rowsOf s).length ≤ 12) && (decide (0 < firstW s) && decide (firstW s ≤ 12))
def goodB (s : Str) : Bool := fits s && (rowsOf s).all (okRow (firstW s))
theorem rows_pos (s : Str) : 1 ≤ (rowsOf s).length := PyProof.Rows.split_pos s "/"
theorem rows_le (s : Str) : (rowsOf s).length ≤ s.length + 2 := PyProof.Rows.split_le s "/"
theorem row_le {s r : Str} (h : r ∈ rowsOf s) : r.length ≤ s.length := PyProof.Rows.part_short (y := "/") h
theorem rows_head (s : Str) : ∃ r0 rest, rowsOf s = r0 :: rest ∧ firstW s = r0.length := by
  have p := rows_pos s
  unfold firstW
  cases e : rowsOf s with
  | nil => rw [e] at p; simp at p
  | cons r0 rest => exact ⟨r0, rest, rfl, rfl⟩
def digsOf (r : Str) : List Nat := r.cps.toList.map (· - 48)
theorem fig_48 {c : Nat} (h : isFig c = true) : 48 ≤ c ∧ c - 48 < 10 ∧ c - 48 ≠ 5 := by
  have := of_decide_eq_true h
  simp only [List.mem_cons, List.not_mem_nil, or_false] at this
  omega
theorem rowS_digs {r : Str} (h : r.cps.toList.all isFig = true) : rowS (digsOf r) = r := by
  have e : (digsOf r).map (48 + ·) = r.cps.toList := by
    unfold digsOf
    rw [List.map_map]
    conv => rhs; rw [← List.map_id r.cps.toList]
    refine List.map_congr_left fun c hc => ?_
    have := (fig_48 (List.all_eq_true.mp h c hc)).1
    show 48 + (c - 48) = c
    omega
  unfold rowS
  rw [e]
abbrev gridOf (s : Str) : List (List Nat) := (rowsOf s).reverse.map digsOf
abbrev rowT (L : List Str) : T := .lst (L.map T.str)
theorem good_rows {s : Str} (h : goodB s = true) : ∀ r ∈ rowsOf s, r.length = firstW s ∧ r.cps.toList.all isFig = true := fun r hr => by
  unfold goodB at h
  rw [Bool.and_eq_true] at h
  have := List.all_eq_true.mp h.2 r hr
  unfold okRow at this
  simpa only [Bool.and_eq_true, decide_eq_true_eq] using this
/-- a text that tells rows is one that a grid spells -/
theorem good_grid {s : Str} (h : goodB s = true) : Dim (gridOf s) (firstW s) (rowsOf s).length ∧ Digs (gridOf s) ∧ s = spell (gridOf s) ∧ rowsT (gridOf s) = rowT (rowsOf s).reverse := by
  have all := good_rows h
  unfold goodB fits at h
  simp only [Bool.and_eq_true, decide_eq_true_eq] at h
  obtain ⟨⟨h1, h2, h3⟩, h4⟩ := h
  have e : (gridOf s).map rowS = (rowsOf s).reverse := by
    rw [List.map_map]
    conv => rhs; rw [← List.map_id (rowsOf s).reverse]
    exact List.map_congr_left fun r hr => rowS_digs (all r (List.mem_reverse.mp hr)).2
  have mem : ∀ r ∈ gridOf s, ∃ q ∈ rowsOf s, digsOf q = r := fun r hr => by
    obtain ⟨q, hq, rfl⟩ := List.mem_map.mp hr
    exact ⟨q, List.mem_reverse.mp hq, rfl⟩
  refine ⟨⟨by rw [List.length_map, List.length_reverse], rows_pos s, h1, fun r hr => ?_, h2, h3⟩, ⟨fun r hr d hd => ?_, fun r hr d hd => ?_⟩, ?_, ?_⟩
  · obtain ⟨q, hq, rfl⟩ := mem r hr
    unfold digsOf
    rw [List.length_map, ← (all q hq).1]
    rfl
  · obtain ⟨q, hq, rfl⟩ := mem r hr
    obtain ⟨c, hc, rfl⟩ := List.mem_map.mp hd
    exact (fig_48 (List.all_eq_true.mp (all q hq).2 c hc)).2.1
  · obtain ⟨q, hq, rfl⟩ := mem r hr
    obtain ⟨c, hc, rfl⟩ := List.mem_map.mp hd
    exact (fig_48 (List.all_eq_true.mp (all q hq).2 c hc)).2.2
  · unfold spell
    rw [List.map_reverse, e, List.reverse_reverse]
    exact (PySem.StrLaws.join_split s "/").symm
  · unfold rowsT
    show _ = T.lst ((rowsOf s).reverse.map T.str)
    rw [← e]
    simp only [List.map_map]
    rfl
theorem in_fig (c : Nat) : bInS false ⟨#[c]⟩ "012346789" = isFig c := by
  unfold bInS
  rw [PySem.StrLaws.found_one, Bool.false_bne]
  have e : (("012346789" : Str)).cps.toList = [48, 49, 50, 51, 52, 54, 55, 56, 57] := by decide +kernel
  rw [e]
  rfl
theorem chain_ok {f g k : ME} {b b' : T → T → VH → Res T} {τ : TS_} {h : VH} {x y z : T} {p q : Bool} (e1 : f τ h = .ok x h) (e2 : g τ h = .ok y h) (e3 : b x y h = .ok (.bl p) h) (e4 : k τ h = .ok z h) (e5 : b' y z h = .ok (.bl q) h) : eChain b b' f g k τ h = .ok (.bl (p && q)) h := by
  unfold eChain
  simp only [e1, e2, e3]
  cases p <;> simp [e4, e5]
theorem or_ok {c d : MB} {τ : TS_} {h : VH} {p q : Bool} (e1 : c τ h = .ok p h) (e2 : d τ h = .ok q h) : TL.bOr c d τ h = .ok (p || q) h := by
  unfold TL.bOr
  rw [e1]
  cases p <;> simp [e2]
theorem eand_ok {f g : ME} {τ : TS_} {h : VH} {p q : Bool} (e1 : f τ h = .ok (.bl p) h) (e2 : g τ h = .ok (.bl q) h) : eAnd f g τ h = .ok (.bl (p && q)) h := by
  unfold eAnd
  rw [e1]
  cases p
  · rfl
  · simp [e2]
theorem split_mt {s : Str} (hs : s.length ≤ 1000) {f : ME} {τ : TS_} {h : VH} (e : f τ h = .ok (.str s) h) : eMt "str" mSplit f (aCons (eK (.str "/")) aNil) τ h = .ok (rowT (rowsOf s)) h := by
  have sh : shortAll (Txt.split s "/") = true := by
    unfold shortAll
    rw [List.all_eq_true]
    intro x hx
    have := PyProof.Rows.part_short hx
    exact decide_eq_true (by omega)
  have ez : (("/" : Str).length == 0) = false := by decide
  have hz : (Txt.split s "/").length ≤ 16777216 := by
    have := PyProof.Rows.split_le s "/"
    omega
  unfold eMt
  have tt : tyT h "str" (.str s) = true := by unfold tyT; rfl
  have a : aCons (eK (.str "/")) aNil τ h = .ok [.str "/"] h := rfl
  simp only [e, tt, if_true, a, mSplit, ez, hz, sh, and_self]
  rfl
theorem bl_len {f : ME} {τ : TS_} {h : VH} {r : Str} (e : f τ h = .ok (.str r) h) : eCall fLen (aCons f aNil) τ h = .ok (.int (r.length : Nat)) h := (call_ok (b := fLen) (cons_ok e rfl)).trans rfl
abbrev rdA : MB := (TL.bOr (TL.bNot (bTest (eChain bLe bLe (eK (.int 1)) (eCall fLen (aCons (eVar 1) aNil)) (eK (.int 12))))) (TL.bNot (bTest (eChain bLe bLe (eK (.int 1)) (eCall fLen (aCons (eOp TL.bIx (eVar 1) (eK (.int 0))) aNil)) (eK (.int 12))))))
abbrev rdS : ME := (eCall fAll (aCons (eL (mLc (iSeqC (eVar 2)) [3] (mgName 3) bYes (eOp bIn (eVar 3) (eK (.str "012346789"))))) aNil))
theorem signs_fig (a b c : Option T) (r : Str) (hr : r.length ≤ 1000) (h : VH) : rdS [a, b, some (.str r), c] h = .ok (.bl (r.cps.toList.all isFig)) h := by
  have z := mLc_map (mi := iSeqC (eVar 2)) (ws := [3]) (g := mgName 3) (e := eOp bIn (eVar 3) (eK (.str "012346789"))) (τ := [a, b, some (.str r), c]) (h := h) (rd := fun h => seqS h (.str r)) (ts := r.cps.toList.map fun c => .str ⟨#[c]⟩)
    (by simp [iSeqC, eVar, walkable, seqS]) (by simp [seqS, signsT]) (by rw [List.length_map, Array.length_toList]; unfold Str.length at hr; omega) (fun t => match t with | .str z => .bl (isFig (z.cps.getD 0 0)) | t => t) (fun t ht => by
      obtain ⟨d, hd, rfl⟩ := List.mem_map.mp ht
      refine ⟨[a, b, some (.str r), some (.str ⟨#[d]⟩)], rfl, EV.op (EV.var rfl) EV.const ?_⟩
      have : bIn (.str ⟨#[d]⟩) (.str "012346789") h = .ok (.bl (bInS false ⟨#[d]⟩ "012346789")) h := rfl
      rw [this, in_fig]
      rfl)
  refine EV.call (EV.cons (EV.lst z) EV.nil) ?_
  rw [List.map_map]
  exact hAll _ _ _
end RQ
set_option Elab.async false
set_option linter.all false
set_option maxRecDepth 100000
set_option maxHeartbeats 4000000
namespace RQ
open PySem L2 TL KG K33 PG
theorem len0 {s : Str} {h : VH} {τ : TS_} (v : eVar 1 τ h = .ok (rowT (rowsOf s)) h) : eCall fLen (aCons (eOp TL.bIx (eVar 1) (eK (.int 0))) aNil) τ h = .ok (.int (firstW s : Nat)) h := by
  obtain ⟨r0, rest, eL0, ew⟩ := rows_head s
  have l0 : TL.bIx (rowT (rowsOf s)) (.int 0) h = .ok (.str r0) h := by
    unfold rowT
    rw [eL0]
    exact EV.ixL (EV.at_nat (i := 0) rfl)
  rw [ew]
  exact bl_len (EV.op v EV.const l0)
theorem len1 {s : Str} {h : VH} {τ : TS_} (v : eVar 1 τ h = .ok (rowT (rowsOf s)) h) : eCall fLen (aCons (eVar 1) aNil) τ h = .ok (.int ((rowsOf s).length : Nat)) h := by
  refine EV.call (EV.cons v EV.nil) ?_
  simp only [fLen, seqOf, TL.listOf, List.length_map]
theorem rdA_ok {s : Str} {h : VH} {τ : TS_} (v : eVar 1 τ h = .ok (rowT (rowsOf s)) h) : rdA τ h = .ok (!fits s) h := by
  have hp := rows_pos s
  have C1 := chain_ok (EV.const : eK (.int 1) τ h = .ok (.int 1) h) (len1 v) (hLe _ _ h) (EV.const : eK (.int 12) τ h = .ok (.int 12) h) (hLe _ _ h)
  have C2 := chain_ok (EV.const : eK (.int 1) τ h = .ok (.int 1) h) (len0 v) (hLe _ _ h) (EV.const : eK (.int 12) τ h = .ok (.int 12) h) (hLe _ _ h)
  have T1 := or_ok (EV.not (test_ok C1)) (EV.not (test_ok C2))
  refine Eq.trans T1 (congrArg (fun b => Res.ok b h) ?_)
  have q1 : decide ((1 : Int) ≤ ((rowsOf s).length : Nat)) = true := decide_eq_true (by omega)
  have q2 : decide (((rowsOf s).length : Int) ≤ 12) = decide ((rowsOf s).length ≤ 12) := decide_eq_decide.mpr (by omega)
  have q3 : decide ((1 : Int) ≤ (firstW s : Nat)) = decide (0 < firstW s) := decide_eq_decide.mpr (by omega)
  have q4 : decide ((firstW s : Int) ≤ 12) = decide (firstW s ≤ 12) := decide_eq_decide.mpr (by omega)
  rw [q1, q2, q3, q4]
  unfold fits
  cases decide ((rowsOf s).length ≤ 12) <;> cases decide (0 < firstW s) <;> cases decide (firstW s ≤ 12) <;> rfl
abbrev rs1 : MS := (sSet 1 (eIf (bTest (eIsi (.b "str") (eVar 0))) (eMt "str" mSplit (eVar 0) (aCons (eK (.str "/")) aNil)) (eL (aLim aNil))))
abbrev rl1 : MS := (sSet 1 (eIf (bTest (eIsi (.b "str") (eVar 0))) (eMt "str" mSplit (eVar 0) (aCons (eK (.str "/")) aNil)) (eL (aLim (aCons (eK (.str "")) aNil)))))
abbrev rsE : ME := (eAnd (eOp TL.bEq (eCall fLen (aCons (eVar 2) aNil)) (eCall fLen (aCons (eOp TL.bIx (eVar 1) (eK (.int 0))) aNil))) rdS)
theorem rs_eq : m_rows_in = defM 4 1 (sSeq rs1 (sSeq (sIf rdA (sRet (eK .non)) sNil) (sSeq (sIf (TL.bNot (bTest (eCall fAll (aCons (eL (mLc (iSeqC (eVar 1)) [2] (mgName 2) bYes rsE)) aNil)))) (sRet (eK .non)) sNil) (sRet (eRev (eVar 1)))))) := rfl
abbrev rlB : MB := (TL.bOr (bTest (eOp bNe (eCall fLen (aCons (eVar 2) aNil)) (eCall fLen (aCons (eOp TL.bIx (eVar 1) (eK (.int 0))) aNil)))) (TL.bNot (bTest rdS)))
abbrev rlR : ME := (eL (mLc (iSeqC (eRev (eVar 1))) [2] (mgName 2) bYes (eL (mLc (iSeqC (eVar 2)) [3] (mgName 3) bYes (eCall fInt (aCons (eVar 3) aNil))))))
theorem rl_eq : K31.m_law_read = defM 4 1 (sSeq rl1 (sSeq (sIf rdA (sRet (eTup aNil)) sNil) (sSeq (sFor (iSeqC (eVar 1)) (mgName 2) (sIf rlB (sRet (eTup aNil)) sNil)) (sRet rlR)))) := rfl
theorem dec_len {r s : Str} : decide (((r.length : Nat) : Int) = (firstW s : Nat)) = decide (r.length = firstW s) := decide_eq_decide.mpr (by omega)
/-- the program's reader -/
theorem rows_in {s : Str} (hs : s.length ≤ 1000) (h : VH) : m_rows_in [.str s] h = .ok (if goodB s then rowsT (gridOf s) else .non) h := by
  have hl := rows_le s
  have S1 : rs1 (startT 4 [.str s]) h = .nx [some (.str s), some (rowT (rowsOf s)), none, none] h :=
    EV.set (EV.eif (EV.test (EV.isi (x := .b "str") (EV.var rfl) rfl)) ((if_pos rfl).trans (split_mt hs (EV.var rfl)))) rfl
  have A := rdA_ok (s := s) (h := h) (τ := [some (.str s), some (rowT (rowsOf s)), none, none]) (EV.var rfl)
  rw [rs_eq]
  refine defM_rt rfl ((seq_nx S1).trans ?_)
  cases f : fits s with
  | false =>
    rw [f] at A
    have g : goodB s = false := by unfold goodB; rw [f]; rfl
    rw [g]
    exact seq_rt ((if_t A).trans rfl)
  | true =>
    rw [f] at A
    refine (seq_nx ((if_f A).trans rfl)).trans ?_
    have outer : mLc (iSeqC (eVar 1)) [2] (mgName 2) bYes rsE [some (.str s), some (rowT (rowsOf s)), none, none] h = .ok ((rowsOf s).map fun r => .bl (okRow (firstW s) r)) h := by
      have z := mLc_map (mi := iSeqC (eVar 1)) (ws := [2]) (g := mgName 2) (e := rsE)
        (τ := [some (T.str s), some (rowT (rowsOf s)), none, none]) (h := h) (rd := fun h => seqS h (rowT (rowsOf s))) (ts := (rowsOf s).map T.str)
        rfl rfl (by rw [List.length_map]; omega) (fun t => match t with | .str r => .bl (okRow (firstW s) r) | t => t) (fun t ht => by
          obtain ⟨r, hr, rfl⟩ := List.mem_map.mp ht
          have hrl := row_le hr
          refine ⟨[some (T.str s), some (rowT (rowsOf s)), some (.str r), none], rfl, ?_⟩
          have B : eOp TL.bEq (eCall fLen (aCons (eVar 2) aNil)) (eCall fLen (aCons (eOp TL.bIx (eVar 1) (eK (.int 0))) aNil)) [some (T.str s), some (rowT (rowsOf s)), some (.str r), none] h = .ok (.bl (decide (r.length = firstW s))) h :=
            EV.op (bl_len (EV.var rfl)) (len0 (EV.var rfl)) (by rw [hEq, dec_len])
          exact eand_ok B (signs_fig _ _ _ r (by omega) h))
      rw [z, List.map_map]
      rfl
    have C : TL.bNot (bTest (eCall fAll (aCons (eL (mLc (iSeqC (eVar 1)) [2] (mgName 2) bYes rsE)) aNil))) [some (.str s), some (rowT (rowsOf s)), none, none] h = .ok (!goodB s) h := by
      refine EV.not (EV.test (EV.call (EV.cons (EV.lst outer) EV.nil) ?_))
      rw [hAll]
      unfold goodB
      rw [f]
      rfl
    cases g : goodB s with
    | false =>
      rw [g] at C
      exact seq_rt ((if_t C).trans rfl)
    | true =>
      rw [g] at C
      refine (seq_nx ((if_f C).trans rfl)).trans (EV.ret ?_)
      rw [if_pos rfl, (good_grid g).2.2.2]
      show eRev (eVar 1) _ h = _
      unfold eRev
      have v : eVar 1 [some (.str s), some (rowT (rowsOf s)), none, none] h = .ok (rowT (rowsOf s)) h := rfl
      rw [v]
      simp only [TL.listOf, ← List.map_reverse]
/-- the law's reader -/
theorem law_read {s : Str} (hs : s.length ≤ 1000) (h : VH) : K31.m_law_read [.str s] h = .ok (if goodB s then gridT (gridOf s) else .tup []) h := by
  have hl := rows_le s
  have S1 : rl1 (startT 4 [.str s]) h = .nx [some (.str s), some (rowT (rowsOf s)), none, none] h :=
    EV.set (EV.eif (EV.test (EV.isi (x := .b "str") (EV.var rfl) rfl)) ((if_pos rfl).trans (split_mt hs (EV.var rfl)))) rfl
  have A := rdA_ok (s := s) (h := h) (τ := [some (.str s), some (rowT (rowsOf s)), none, none]) (EV.var rfl)
  rw [rl_eq]
  refine defM_rt rfl ((seq_nx S1).trans ?_)
  cases f : fits s with
  | false =>
    rw [f] at A
    have g : goodB s = false := by unfold goodB; rw [f]; rfl
    rw [g]
    exact seq_rt ((if_t A).trans rfl)
  | true =>
    rw [f] at A
    refine (seq_nx ((if_f A).trans rfl)).trans ?_
    have tb : ∀ r ∈ rowsOf s, ∀ h, rlB [some (.str s), some (rowT (rowsOf s)), some (.str r), none] h = .ok (!okRow (firstW s) r) h := fun r hr h => by
      have hrl := row_le hr
      have B : bTest (eOp bNe (eCall fLen (aCons (eVar 2) aNil)) (eCall fLen (aCons (eOp TL.bIx (eVar 1) (eK (.int 0))) aNil))) [some (T.str s), some (rowT (rowsOf s)), some (.str r), none] h = .ok (!decide (r.length = firstW s)) h :=
        EV.test (EV.op (bl_len (EV.var rfl)) (len0 (EV.var rfl)) (by rw [hNe, dec_len]))
      refine (or_ok B (EV.not (EV.test (signs_fig _ _ _ r (by omega) h)))).trans (congrArg (fun b => Res.ok b h) ?_)
      unfold okRow
      cases decide (r.length = firstW s) <;> cases r.cps.toList.all isFig <;> rfl
    have main := sFor_or (mi := iSeqC (eVar 1)) (g := mgName 2) (body := sIf rlB (sRet (eTup aNil)) sNil) (τ := [some (.str s), some (rowT (rowsOf s)), none, none]) (h := h) (h1 := h) (rd := fun h => seqS h (rowT (rowsOf s))) (ts := (rowsOf s).map T.str)
      (fun i τ h' => (∃ c, τ = [some (.str s), some (rowT (rowsOf s)), c, none]) ∧ h' = h ∧ ∀ j (hj : j < (rowsOf s).length), j < i → okRow (firstW s) (rowsOf s)[j] = true) (fun t h' => t = .tup [] ∧ h' = h ∧ goodB s = false) rfl ⟨⟨none, rfl⟩, rfl, fun j _ hj => by omega⟩ (fun _ _ _ _ => rfl) (fun i hi τ h' J => by
        obtain ⟨⟨c, rfl⟩, rfl, ok⟩ := J
        have hi2 : i < (rowsOf s).length := by simpa using hi
        have ei : ((rowsOf s).map T.str)[i] = .str (rowsOf s)[i] := List.getElem_map ..
        rw [ei]
        have tb := tb _ (List.getElem_mem hi2) h'
        refine ⟨[some (.str s), some (rowT (rowsOf s)), some (.str (rowsOf s)[i]), none], h', rfl, ?_⟩
        cases q : okRow (firstW s) (rowsOf s)[i] with
        | false =>
          rw [q] at tb
          refine .inr ⟨_, _, (if_t tb).trans rfl, rfl, rfl, ?_⟩
          cases g : goodB s with
          | false => rfl
          | true =>
            unfold goodB at g
            rw [Bool.and_eq_true] at g
            rw [List.all_eq_true.mp g.2 _ (List.getElem_mem hi2)] at q
            cases q
        | true =>
          rw [q] at tb
          refine .inl ⟨_, _, (if_f tb).trans rfl, ⟨_, rfl⟩, rfl, fun j hj hji => ?_⟩
          by_cases c2 : j = i
          · subst c2; exact q
          · exact ok j hj (by omega))
    rcases main with ⟨τ', h', z, ⟨c, rfl⟩, rfl, ok⟩ | ⟨t, h', z, rfl, rfl, g⟩
    · have g : goodB s = true := by
        unfold goodB
        rw [f, Bool.true_and]
        exact List.all_eq_true.mpr fun r hr => by
          obtain ⟨j, hj, rfl⟩ := List.getElem_of_mem hr
          exact ok j hj (by rw [List.length_map]; exact hj)
      rw [g]
      refine (seq_nx z).trans (EV.ret (EV.lst ?_))
      have all := good_rows g
      have mi : iSeqC (eRev (eVar 1)) [some (.str s), some (rowT (rowsOf s)), c, none] h' = .ok (fun h => seqS h (rowT (rowsOf s).reverse)) h' := by
        have e : eRev (eVar 1) [some (.str s), some (rowT (rowsOf s)), c, none] h' = .ok (rowT (rowsOf s).reverse) h' := by
          unfold eRev
          have v : eVar 1 [some (.str s), some (rowT (rowsOf s)), c, none] h' = .ok (rowT (rowsOf s)) h' := rfl
          rw [v]
          simp only [TL.listOf, ← List.map_reverse]
        unfold iSeqC
        rw [e]
        rfl
      have zz := mLc_map (mi := iSeqC (eRev (eVar 1))) (ws := [2]) (g := mgName 2) (e := (eL (mLc (iSeqC (eVar 2)) [3] (mgName 3) bYes (eCall fInt (aCons (eVar 3) aNil)))))
        (τ := [some (T.str s), some (rowT (rowsOf s)), c, none]) (h := h') (rd := fun h => seqS h (rowT (rowsOf s).reverse)) (ts := (rowsOf s).reverse.map T.str)
        mi rfl (by rw [List.length_map, List.length_reverse]; omega) (fun t => match t with | .str r => .lst ((digsOf r).map fun d => .int (d : Nat)) | t => t) (fun t ht => by
          obtain ⟨r, hr, rfl⟩ := List.mem_map.mp ht
          have hr := List.mem_reverse.mp hr
          have hrl := row_le hr
          refine ⟨[some (T.str s), some (rowT (rowsOf s)), some (.str r), none], rfl, EV.lst ?_⟩
          have y := mLc_map (mi := iSeqC (eVar 2)) (ws := [3]) (g := mgName 3) (e := (eCall fInt (aCons (eVar 3) aNil))) (τ := [some (T.str s), some (rowT (rowsOf s)), some (.str r), none]) (h := h') (rd := fun h => seqS h (.str r)) (ts := (digsOf r).map fun d => .str (dig d))
            (by simp [iSeqC, eVar, walkable, seqS]) (by
              have := signs_row (digsOf r)
              rw [rowS_digs (all r hr).2] at this
              simp [seqS, this]) (by unfold digsOf; rw [List.length_map, List.length_map, Array.length_toList]; unfold Str.length at hrl hs; omega) (fun t => match t with | .str z => .int ((z.cps.getD 0 0 - 48 : Nat)) | t => t) (fun t ht => by
              obtain ⟨d, hd, rfl⟩ := List.mem_map.mp ht
              obtain ⟨ch, hc, rfl⟩ := List.mem_map.mp hd
              have w := fig_48 (List.all_eq_true.mp (all r hr).2 ch hc)
              refine ⟨[some (T.str s), some (rowT (rowsOf s)), some (.str r), some (.str (dig (ch - 48)))], rfl, EV.call (EV.cons (EV.var rfl) EV.nil) ?_⟩
              rw [fInt_dig h' _ w.2.1 w.2.2]
              have : 48 + (ch - 48) - 48 = ch - 48 := by omega
              show _ = Res.ok (T.int ((48 + (ch - 48) - 48 : Nat))) h'
              rw [this])
          rw [y, List.map_map]
          refine congrArg (fun l => Res.ok l h') (List.map_congr_left fun d _ => ?_)
          show T.int ((48 + d - 48 : Nat)) = _
          have : 48 + d - 48 = d := by omega
          rw [this])
      rw [zz, List.map_map]
      show _ = Res.ok (List.map (fun r => T.lst (List.map (fun d : Nat => T.int (d : Nat)) r)) ((rowsOf s).reverse.map digsOf)) h'
      simp only [List.map_map]
      rfl
    · rw [g]
      exact seq_rt z
theorem read_other {t : T} {h : VH} {x : TyC} (tx : tyOf h t = some x) (ns : isiB x (.b "str") = false) : m_rows_in [t] h = .ok .non h ∧ K31.m_law_read [t] h = .ok (.tup []) h := by
  have i : bTest (eIsi (.b "str") (eVar 0)) (startT 4 [t]) h = .ok false h := EV.test ((EV.isi (x := x) (EV.var rfl) tx).trans (by rw [ns]))
  constructor
  · rw [rs_eq]
    have S1 : rs1 (startT 4 [t]) h = .nx [some t, some (.lst []), none, none] h := EV.set (EV.eif i ((if_neg Bool.false_ne_true).trans rfl)) rfl
    exact defM_rt rfl ((seq_nx S1).trans (seq_rt ((if_t (h1 := h) rfl).trans rfl)))
  · rw [rl_eq]
    have S1 : rl1 (startT 4 [t]) h = .nx [some t, some (.lst [.str ""]), none, none] h := EV.set (EV.eif i ((if_neg Bool.false_ne_true).trans rfl)) rfl
    exact defM_rt rfl ((seq_nx S1).trans (seq_rt ((if_t (h1 := h) rfl).trans rfl)))
end RQ
set_option Elab.async false
set_option linter.all false
set_option maxRecDepth 100000
set_option maxHeartbeats 4000000
namespace RQ
open PySem L2 TL KG K33 PG
section
variable {G : List (List Nat)} {W H : Nat}
structure Fig (G : List (List Nat)) (W H : Nat) : Prop where
  dg : Digs G
  lt : ∀ x y, cell G W H x y < 10
  n5 : ∀ x y, cell G W H x y ≠ 5
theorem Fig.of (D : Dim G W H) (A : Digs G) : Fig G W H := by
  have m : ∀ x y, cell G W H x y ∈ rowAt G H y := fun x y => by
    unfold cell
    have hl := D.row _ (D.rowAt_mem y)
    have := mod_lt' x D.w0
    rw [List.getD_eq_getElem?_getD, List.getElem?_eq_getElem (by rw [hl]; exact this)]
    exact List.getElem_mem _
  exact ⟨A, fun x y => A.lt _ (D.rowAt_mem y) _ (m x y), fun x y => A.n5 _ (D.rowAt_mem y) _ (m x y)⟩
def mAt (G : List (List Nat)) (W H : Nat) (x y : Int) : Bool := decide (cell G W H x y = 0) || decide (cell G W H (x + sx (cell G W H x y)) (y + sy (cell G W H x y)) + cell G W H x y = 10)
/-- the first cell whose partner looks elsewhere -/
inductive Wr (G : List (List Nat)) (W H : Nat) : Option (Nat × Nat) → Prop
  | none (all : ∀ i, i < H → ∀ j, j < W → mAt G W H (j : Nat) (i : Nat) = true) : Wr G W H none
  | some {i j : Nat} (hi : i < H) (hj : j < W) (bad : mAt G W H (j : Nat) (i : Nat) = false) (row : ∀ j', j' < j → mAt G W H (j' : Nat) (i : Nat) = true) (rows : ∀ i', i' < i → ∀ j', j' < W → mAt G W H (j' : Nat) (i' : Nat) = true) : Wr G W H (some (j, i))
theorem Wr.uniq {a b : Option (Nat × Nat)} (p : Wr G W H a) (q : Wr G W H b) : a = b := by
  cases p with
  | none all => cases q with
    | none => rfl
    | some hi hj bad => rw [all _ hi _ hj] at bad; cases bad
  | @some i j hi hj bad row rows => cases q with
    | none all => rw [all _ hi _ hj] at bad; cases bad
    | @some i' j' hi' hj' bad' row' rows' =>
      have ei : i = i' := by
        rcases Nat.lt_trichotomy i i' with z | z | z
        · rw [rows' _ z _ hj] at bad; cases bad
        · exact z
        · rw [rows _ z _ hj'] at bad'; cases bad'
      subst ei
      have ej : j = j' := by
        rcases Nat.lt_trichotomy j j' with z | z | z
        · rw [row' _ z] at bad; cases bad
        · exact z
        · rw [row _ z] at bad'; cases bad'
      rw [ej]
theorem Wr.mut (D : Dim G W H) (F : Fig G W H) (w : Wr G W H Option.none) : K33.Mut G W H := by
  cases w with
  | none all =>
    refine ⟨F.lt, F.n5, fun x y nz => ?_⟩
    obtain ⟨x', ex, hx⟩ := mod_ix x D.w0
    obtain ⟨y', ey, hy⟩ := mod_ix y D.h0
    have q := all y' hy x' hx
    have xx : (x' : Int) % W = x' := Int.emod_eq_of_lt (by omega) (by omega)
    have yy : (y' : Int) % H = y' := Int.emod_eq_of_lt (by omega) (by omega)
    have e : cell G W H x' y' = cell G W H x y := cell_congr (by rw [ex, xx]) (by rw [ey, yy])
    unfold mAt at q
    rw [e, Bool.or_eq_true, decide_eq_true_eq, decide_eq_true_eq] at q
    have e2 : cell G W H (x' + sx (cell G W H x y)) (y' + sy (cell G W H x y)) = cell G W H (x + sx (cell G W H x y)) (y + sy (cell G W H x y)) := cell_congr (by rw [← ex, Int.emod_add_emod]) (by rw [← ey, Int.emod_add_emod])
    rw [e2] at q
    exact q.resolve_left nz
abbrev fwT : Option (Nat × Nat) → T
  | none => .non
  | some (j, i) => .tup [.int (j : Nat), .int (i : Nat)]
abbrev lwT : Option (Nat × Nat) → T
  | none => .tup []
  | some (j, i) => .tup [.int (j : Nat), .int (i : Nat)]
abbrev fwB : MS := (sIf (bTest (eOp bNe (eVar 4) (eK (.str "0")))) (sSeq (sSet 5 (eIxK kv_SHIFTS (eVar 4)))
  (sIf (bTest (eOp bNe (eOp TL.bAdd (eCall fInt (aCons (eCall m_figure_at (aCons (eVar 0) (aCons (eOp TL.bAdd (eVar 3) (eOp TL.bIx (eVar 5) (eK (.int 0)))) (aCons (eOp TL.bAdd (eVar 1) (eOp TL.bIx (eVar 5) (eK (.int 1)))) aNil)))) aNil)) (eCall fInt (aCons (eVar 4) aNil))) (eK (.int 10)))) (sRet (eTup (aCons (eVar 3) (aCons (eVar 1) aNil)))) sNil)) sNil)
abbrev fwL : MS := (sFor (iEnumSM (aCons (eVar 2) aNil)) (mgTup 2 (mgsCons (mgName 3) (mgsCons (mgName 4) mgsNil))) fwB)
theorem fw_eq : m_first_wrong = defM 6 1 (sSeq (sFor (iEnumM (aCons (eFld 2 1 (eVar 0)) aNil)) (mgTup 2 (mgsCons (mgName 1) (mgsCons (mgName 2) mgsNil))) fwL) (sRet (eK .non))) := rfl
theorem fwB_ok (D : Dim G W H) (F : Fig G W H) {o u : T} {h : VH} (ho : getI h o = some (2, [u, rowsT G])) (i j : Nat) (r : T) (f : Option T) : ∃ f', fwB [some o, some (.int (i : Nat)), some r, some (.int (j : Nat)), some (.str (dig (cell G W H (j : Nat) (i : Nat)))), f] h = if mAt G W H (j : Nat) (i : Nat) then .nx [some o, some (.int (i : Nat)), some r, some (.int (j : Nat)), some (.str (dig (cell G W H (j : Nat) (i : Nat)))), f'] h else .rt (.tup [.int (j : Nat), .int (i : Nat)]) h := by
  have c1 := F.lt (j : Int) (i : Int)
  have c2 := F.n5 (j : Int) (i : Int)
  unfold mAt
  generalize hc : cell G W H (j : Int) (i : Int) = c at c1 c2
  have ez : bNe (.str (dig c)) (.str "0") h = .ok (.bl (!decide (c = 0))) h := by
    unfold bNe bEqG
    simp only [dat_str, dig_zero]
  by_cases z : c = 0
  · refine ⟨f, ?_⟩
    rw [decide_eq_true z] at ez ⊢
    exact (if_f (EV.test (EV.op (EV.var rfl) EV.const ez))).trans rfl
  · rw [decide_eq_false z] at ez ⊢
    have f1 := fig_ok D ho ((j : Int) + sx c) ((i : Int) + sy c)
    have l1 := F.lt ((j : Int) + sx c) ((i : Int) + sy c)
    have l2 := F.n5 ((j : Int) + sx c) ((i : Int) + sy c)
    generalize hm : cell G W H ((j : Int) + sx c) ((i : Int) + sy c) = m at f1 l1 l2
    refine ⟨some (.tup [.int (sx c), .int (sy c)]), (if_t (EV.test (EV.op (EV.var rfl) EV.const ez))).trans ?_⟩
    have S : sSet 5 (eIxK kv_SHIFTS (eVar 4)) [some o, some (.int (i : Nat)), some r, some (.int (j : Nat)), some (.str (dig c)), f] h = .nx [some o, some (.int (i : Nat)), some r, some (.int (j : Nat)), some (.str (dig c)), some (.tup [.int (sx c), .int (sy c)])] h := by
      simp [sSet, eIxK, eVar, sh_dig c c1 c2 z]
    have N : bNe (.int ((m : Int) + (c : Int))) (.int 10) h = .ok (.bl (!decide (m + c = 10))) h := by
      rw [hNe]
      refine congrArg (fun b => Res.ok (T.bl (!b)) h) (decide_eq_decide.mpr (by omega))
    have T1 : bTest (eOp bNe (eOp TL.bAdd (eCall fInt (aCons (eCall m_figure_at (aCons (eVar 0) (aCons (eOp TL.bAdd (eVar 3) (eOp TL.bIx (eVar 5) (eK (.int 0)))) (aCons (eOp TL.bAdd (eVar 1) (eOp TL.bIx (eVar 5) (eK (.int 1)))) aNil)))) aNil)) (eCall fInt (aCons (eVar 4) aNil))) (eK (.int 10))) [some o, some (.int (i : Nat)), some r, some (.int (j : Nat)), some (.str (dig c)), some (.tup [.int (sx c), .int (sy c)])] h = .ok (!decide (m + c = 10)) h := by
      refine EV.test (EV.op (EV.op (EV.call (EV.cons (EV.call (EV.cons (EV.var rfl) (EV.cons (EV.op (EV.var rfl) (EV.op (EV.var rfl) EV.const (EV.ixT (EV.at_nat (i := 0) rfl))) (hAdd _ _ _)) (EV.cons (EV.op (EV.var rfl) (EV.op (EV.var rfl) EV.const (EV.ixT (EV.at_nat (i := 1) rfl))) (hAdd _ _ _)) EV.nil))) f1) EV.nil) (fInt_dig h m l1 l2)) (EV.call (EV.cons (EV.var rfl) EV.nil) (fInt_dig h c c1 c2)) (hAdd _ _ _)) EV.const N)
    refine (seq_nx S).trans ?_
    rw [Bool.false_or]
    by_cases q : m + c = 10
    · rw [decide_eq_true q] at T1 ⊢
      exact (if_f T1).trans rfl
    · rw [decide_eq_false q] at T1 ⊢
      exact (if_t T1).trans rfl
theorem fwL_ok (D : Dim G W H) (F : Fig G W H) {o u : T} {h : VH} (ho : getI h o = some (2, [u, rowsT G])) {i : Nat} (hi : i < H) (d e f : Option T) :
    (∃ d' e' f', fwL [some o, some (.int (i : Nat)), some (.str (rowS (G.getD i []))), d, e, f] h = .nx [some o, some (.int (i : Nat)), some (.str (rowS (G.getD i []))), d', e', f'] h ∧ ∀ j, j < W → mAt G W H (j : Nat) (i : Nat) = true) ∨
    ∃ j, j < W ∧ mAt G W H (j : Nat) (i : Nat) = false ∧ (∀ j', j' < j → mAt G W H (j' : Nat) (i : Nat) = true) ∧ fwL [some o, some (.int (i : Nat)), some (.str (rowS (G.getD i []))), d, e, f] h = .rt (.tup [.int (j : Nat), .int (i : Nat)]) h := by
  have hr : G.getD i [] ∈ G := by
    rw [List.getD_eq_getElem?_getD, List.getElem?_eq_getElem (by rw [D.len]; exact hi)]
    exact List.getElem_mem _
  have hlr := D.row _ hr
  have el : (enumT (signsT (rowS (G.getD i [])))).length = W := by rw [enum_len, signs_row, List.length_map, hlr]
  have main := sFor_or (mi := iEnumSM (aCons (eVar 2) aNil)) (g := mgTup 2 (mgsCons (mgName 3) (mgsCons (mgName 4) mgsNil))) (body := fwB) (τ := [some o, some (.int (i : Nat)), some (.str (rowS (G.getD i []))), d, e, f]) (h := h) (h1 := h)
      (rd := fun _ => some (enumT (signsT (rowS (G.getD i []))))) (ts := enumT (signsT (rowS (G.getD i [])))) (fun k τ h' => h' = h ∧ (∃ d e f, τ = [some o, some (.int (i : Nat)), some (.str (rowS (G.getD i []))), d, e, f]) ∧ ∀ j', j' < k → mAt G W H (j' : Nat) (i : Nat) = true)
      (fun t h' => h' = h ∧ ∃ j, t = .tup [.int (j : Nat), .int (i : Nat)] ∧ j < W ∧ mAt G W H (j : Nat) (i : Nat) = false ∧ ∀ j', j' < j → mAt G W H (j' : Nat) (i : Nat) = true)
      (by simp [iEnumSM, aCons, aNil, eVar]) ⟨rfl, ⟨d, e, f, rfl⟩, fun j' z => by omega⟩ (fun _ _ _ _ => rfl) (fun j hj τ h' I => by
        obtain ⟨rfl, ⟨d, e, f, rfl⟩, al⟩ := I
        have hjW : j < W := by rw [el] at hj; exact hj
        obtain ⟨hj2, ej⟩ := enum_at hj
        rw [ej]
        have hj3 : j < (G.getD i []).length := by rw [hlr]; exact hjW
        have es : (signsT (rowS (G.getD i [])))[j] = .str (dig (cell G W H (j : Int) (i : Int))) := by
          rw [cell_nat D hi hjW]
          have e1 : (signsT (rowS (G.getD i [])))[j]? = some (.str (dig ((G.getD i []).getD j 0))) := by
            rw [signs_row, List.getElem?_map, List.getElem?_eq_getElem hj3]
            rw [getD_lt hj3]
            rfl
          rw [List.getElem?_eq_getElem hj2] at e1
          exact Option.some.inj e1
        rw [es]
        obtain ⟨f', b⟩ := fwB_ok D F ho i j (.str (rowS (G.getD i []))) f
        refine ⟨[some o, some (.int (i : Nat)), some (.str (rowS (G.getD i []))), some (.int (j : Nat)), some (.str (dig (cell G W H (j : Int) (i : Int)))), f], h', by simp [mgTup, mgsCons, mgName, mgsNil], ?_⟩
        cases q : mAt G W H (j : Nat) (i : Nat) with
        | true =>
          rw [q] at b
          refine .inl ⟨_, _, b, rfl, ⟨_, _, _, rfl⟩, fun j' z => ?_⟩
          by_cases c : j' = j
          · rw [c]; exact q
          · exact al j' (by omega)
        | false =>
          rw [q] at b
          exact .inr ⟨_, _, b, rfl, j, rfl, hjW, q, al⟩)
  rcases main with ⟨τ', h', z, rfl, ⟨d', e', f', rfl⟩, al⟩ | ⟨t, h', z, rfl, j, rfl, hj, bd, al⟩
  · exact .inl ⟨d', e', f', z, fun j hj => al j (by rw [el]; exact hj)⟩
  · exact .inr ⟨j, hj, bd, al, z⟩
theorem first_gen (D : Dim G W H) (F : Fig G W H) {o u : T} {h : VH} (ho : getI h o = some (2, [u, rowsT G])) : ∃ r, Wr G W H r ∧ m_first_wrong [o] h = .ok (fwT r) h := by
  have el : (enumT (G.map fun r => T.str (rowS r))).length = H := by rw [enum_len, List.length_map, D.len]
  have main := sFor_or (mi := iEnumM (aCons (eFld 2 1 (eVar 0)) aNil)) (g := mgTup 2 (mgsCons (mgName 1) (mgsCons (mgName 2) mgsNil))) (body := fwL) (τ := [some o, none, none, none, none, none]) (h := h) (h1 := h)
    (rd := fun h => (TL.listOf h (rowsT G)).map enumT) (ts := enumT (G.map fun r => .str (rowS r))) (fun k τ h' => h' = h ∧ (∃ a b d e f, τ = [some o, a, b, d, e, f]) ∧ ∀ i', i' < k → ∀ j', j' < W → mAt G W H (j' : Nat) (i' : Nat) = true)
    (fun t h' => h' = h ∧ ∃ i j, t = .tup [.int (j : Nat), .int (i : Nat)] ∧ Wr G W H (some (j, i)))
    (by simp [iEnumM, aCons, aNil, eFld, eVar, ho, rowsT, TL.listOf]) ⟨rfl, ⟨_, _, _, _, _, rfl⟩, fun i' z => by omega⟩ (fun _ _ _ _ => rfl) (fun i hi τ h' I => by
      obtain ⟨rfl, ⟨a, b, d, e, f, rfl⟩, al⟩ := I
      have hiH : i < H := by rw [el] at hi; exact hi
      obtain ⟨hi2, ei⟩ := enum_at hi
      rw [ei]
      have hiG : i < G.length := by rw [List.length_map] at hi2; exact hi2
      have er : (G.map fun r => T.str (rowS r))[i] = .str (rowS (G.getD i [])) := by
        rw [List.getElem_map, List.getD_eq_getElem?_getD, List.getElem?_eq_getElem hiG]
        rfl
      rw [er]
      refine ⟨[some o, some (.int (i : Nat)), some (.str (rowS (G.getD i []))), d, e, f], h', by simp [mgTup, mgsCons, mgName, mgsNil], ?_⟩
      rcases fwL_ok D F ho hiH d e f with ⟨d', e', f', z, row⟩ | ⟨j, hj, bd, row, z⟩
      · refine .inl ⟨_, _, z, rfl, ⟨_, _, _, _, _, rfl⟩, fun i' q j' hj' => ?_⟩
        by_cases c : i' = i
        · rw [c]; exact row j' hj'
        · exact al i' (by omega) j' hj'
      · exact .inr ⟨_, _, z, rfl, i, j, rfl, .some hiH hj bd row al⟩)
  rw [fw_eq]
  rcases main with ⟨τ', h', z, rfl, ⟨a, b, d, e, f, rfl⟩, al⟩ | ⟨t, h', z, rfl, i, j, rfl, w⟩
  · exact ⟨none, .none fun i hi j hj => al i (by rw [el]; exact hi) j hj, defM_rt rfl ((seq_nx z).trans (ret_ok rfl))⟩
  · exact ⟨_, w, defM_rt rfl (seq_rt z)⟩
theorem shift_gen {d : Nat} (hd : d < 10) (h5 : d ≠ 5) (h : VH) : m_law_shift [.int (d : Nat)] h = .ok (.tup [.int (sx d), .int (sy d)]) h := by
  refine ten (P := fun d => m_law_shift [.int (d : Nat)] h = .ok (.tup [.int (sx d), .int (sy d)]) h) ?_ ?_ ?_ ?_ ?_ ?_ ?_ ?_ ?_ d hd h5 <;> rfl
abbrev lwB : MS := (sSeq (sSet 3 (eOp TL.bIx (eOp TL.bIx (eVar 0) (eVar 1)) (eVar 2)))
  (sSeq (sSet 4 (eCall m_law_shift (aCons (eVar 3) aNil)))
  (sSeq (sSet 5 (eCall m_law_at (aCons (eVar 0) (aCons (eOp TL.bAdd (eVar 2) (eOp TL.bIx (eVar 4) (eK (.int 0)))) (aCons (eOp TL.bAdd (eVar 1) (eOp TL.bIx (eVar 4) (eK (.int 1)))) aNil)))))
  (sIf (TL.bAnd (bTest (eOp bGt (eVar 3) (eK (.int 0)))) (bTest (eOp bNe (eOp TL.bAdd (eVar 5) (eVar 3)) (eK (.int 10))))) (sRet (eTup (aCons (eVar 2) (aCons (eVar 1) aNil)))) sNil))))
abbrev lwL : MS := (sFor (iRange1 (aCons (eCall fLen (aCons (eOp TL.bIx (eVar 0) (eK (.int 0))) aNil)) aNil)) (mgName 2) lwB)
theorem lw_eq : K31.m_law_wrong = defM 6 1 (sSeq (sFor (iRange1 (aCons (eCall fLen (aCons (eVar 0) aNil)) aNil)) (mgName 1) lwL) (sRet (eTup aNil))) := rfl
theorem row_at (D : Dim G W H) {i : Nat} (hi : i < H) (h : VH) : TL.bIx (gridT G) (.int (i : Nat)) h = .ok (.lst ((G.getD i []).map fun d => .int (d : Nat))) h := by
  have hiG : i < G.length := by rw [D.len]; exact hi
  refine EV.ixL (EV.at_nat ?_)
  rw [List.getElem?_map, List.getElem?_eq_getElem hiG, List.getD_eq_getElem?_getD, List.getElem?_eq_getElem hiG]
  rfl
theorem lwB_ok (D : Dim G W H) (F : Fig G W H) {i j : Nat} (hi : i < H) (hj : j < W) (h : VH) (a b c : Option T) : ∃ a' b' c', lwB [some (gridT G), some (.int (i : Nat)), some (.int (j : Nat)), a, b, c] h = if mAt G W H (j : Nat) (i : Nat) then .nx [some (gridT G), some (.int (i : Nat)), some (.int (j : Nat)), a', b', c'] h else .rt (.tup [.int (j : Nat), .int (i : Nat)]) h := by
  have hr : G.getD i [] ∈ G := by
    rw [List.getD_eq_getElem?_getD, List.getElem?_eq_getElem (by rw [D.len]; exact hi)]
    exact List.getElem_mem _
  have hlr := D.row _ hr
  have c1 := F.lt (j : Int) (i : Int)
  have c2 := F.n5 (j : Int) (i : Int)
  have cc := cell_nat D hi hj
  unfold mAt
  generalize hc : cell G W H (j : Int) (i : Int) = k at c1 c2 cc
  have at1 : TL.bIx (.lst ((G.getD i []).map fun d => T.int (d : Nat))) (.int (j : Nat)) h = .ok (.int (k : Nat)) h := by
    have hj3 : j < (G.getD i []).length := by rw [hlr]; exact hj
    refine EV.ixL (EV.at_nat ?_)
    rw [List.getElem?_map, List.getElem?_eq_getElem hj3, cc, getD_lt hj3]
    rfl
  have A := at_ok D ((j : Int) + sx k) ((i : Int) + sy k) h
  generalize hm : cell G W H ((j : Int) + sx k) ((i : Int) + sy k) = m at A
  refine ⟨some (.int (k : Nat)), some (.tup [.int (sx k), .int (sy k)]), some (.int (m : Nat)), ?_⟩
  refine (seq_nx (EV.set (EV.op (EV.op (EV.var rfl) (EV.var rfl) (row_at D hi h)) (EV.var rfl) at1) rfl)).trans ?_
  refine (seq_nx (EV.set (EV.call (EV.cons (EV.var rfl) EV.nil) (shift_gen c1 c2 h)) rfl)).trans ?_
  refine (seq_nx (EV.set (EV.call (EV.cons (EV.var rfl) (EV.cons (EV.op (EV.var rfl) (EV.op (EV.var rfl) EV.const (EV.ixT (EV.at_nat (i := 0) rfl))) (hAdd _ _ _)) (EV.cons (EV.op (EV.var rfl) (EV.op (EV.var rfl) EV.const (EV.ixT (EV.at_nat (i := 1) rfl))) (hAdd _ _ _)) EV.nil))) A) rfl)).trans ?_
  have C : TL.bAnd (bTest (eOp bGt (eVar 3) (eK (.int 0)))) (bTest (eOp bNe (eOp TL.bAdd (eVar 5) (eVar 3)) (eK (.int 10)))) [some (gridT G), some (.int (i : Nat)), some (.int (j : Nat)), some (.int (k : Nat)), some (.tup [.int (sx k), .int (sy k)]), some (.int (m : Nat))] h = .ok (!(decide (k = 0) || decide (m + k = 10))) h := by
    have e1 : decide ((0 : Int) < (k : Nat)) = !decide (k = 0) := by
      by_cases q : k = 0
      · rw [decide_eq_true q, decide_eq_false (by omega)]; rfl
      · rw [decide_eq_false q, decide_eq_true (by omega)]; rfl
    have e2 : decide ((m : Int) + (k : Int) = 10) = decide (m + k = 10) := decide_eq_decide.mpr (by omega)
    refine EV.band (EV.test (EV.op (EV.var rfl) EV.const (hGt _ _ _))) ?_
    rw [e1]
    have T2 : bTest (eOp bNe (eOp TL.bAdd (eVar 5) (eVar 3)) (eK (.int 10))) [some (gridT G), some (.int (i : Nat)), some (.int (j : Nat)), some (.int (k : Nat)), some (.tup [.int (sx k), .int (sy k)]), some (.int (m : Nat))] h = .ok (!decide (m + k = 10)) h := by
      rw [← e2]
      exact EV.test (EV.op (EV.op (EV.var rfl) (EV.var rfl) (hAdd _ _ _)) EV.const (hNe _ _ _))
    rw [T2]
    cases decide (k = 0) <;> simp
  cases q : (decide (k = 0) || decide (m + k = 10)) with
  | true =>
    rw [q] at C
    exact (if_f C).trans rfl
  | false =>
    rw [q] at C
    exact (if_t C).trans rfl
theorem lwL_ok (D : Dim G W H) (F : Fig G W H) {i : Nat} (hi : i < H) (h : VH) (b d e f : Option T) :
    (∃ b' d' e' f', lwL [some (gridT G), some (.int (i : Nat)), b, d, e, f] h = .nx [some (gridT G), some (.int (i : Nat)), b', d', e', f'] h ∧ ∀ j, j < W → mAt G W H (j : Nat) (i : Nat) = true) ∨
    ∃ j, j < W ∧ mAt G W H (j : Nat) (i : Nat) = false ∧ (∀ j', j' < j → mAt G W H (j' : Nat) (i : Nat) = true) ∧ lwL [some (gridT G), some (.int (i : Nat)), b, d, e, f] h = .rt (.tup [.int (j : Nat), .int (i : Nat)]) h := by
  have w1 := D.w1
  have hr : G.getD 0 [] ∈ G := by
    rw [List.getD_eq_getElem?_getD, List.getElem?_eq_getElem (by rw [D.len]; exact D.h0)]
    exact List.getElem_mem _
  have mi : iRange1 (aCons (eCall fLen (aCons (eOp TL.bIx (eVar 0) (eK (.int 0))) aNil)) aNil) [some (gridT G), some (.int (i : Nat)), b, d, e, f] h = .ok (fun _ => some (rangeT 0 W)) h := by
    refine rng_ok (EV.cons (EV.call (EV.cons (EV.op (EV.var rfl) EV.const (row_at D D.h0 h)) EV.nil) ?_) EV.nil) (by omega)
    rw [EV.lenL, List.length_map, D.row _ hr]
  have main := sFor_or (mi := _) (g := mgName 2) (body := lwB) (τ := [some (gridT G), some (.int (i : Nat)), b, d, e, f]) (h := h) (h1 := h)
      (rd := fun _ => some (rangeT 0 W)) (ts := rangeT 0 W) (fun k τ h' => h' = h ∧ (∃ b d e f, τ = [some (gridT G), some (.int (i : Nat)), b, d, e, f]) ∧ ∀ j', j' < k → mAt G W H (j' : Nat) (i : Nat) = true)
      (fun t h' => h' = h ∧ ∃ j, t = .tup [.int (j : Nat), .int (i : Nat)] ∧ j < W ∧ mAt G W H (j : Nat) (i : Nat) = false ∧ ∀ j', j' < j → mAt G W H (j' : Nat) (i : Nat) = true)
      mi ⟨rfl, ⟨b, d, e, f, rfl⟩, fun j' z => by omega⟩ (fun _ _ _ _ => rfl) (fun j hj τ h' I => by
        obtain ⟨rfl, ⟨b, d, e, f, rfl⟩, al⟩ := I
        obtain ⟨hjW, ej⟩ := range_at hj
        rw [ej, Int.zero_add]
        obtain ⟨a', b', c', z⟩ := lwB_ok D F hi hjW h' d e f
        refine ⟨[some (gridT G), some (.int (i : Nat)), some (.int (j : Nat)), d, e, f], h', rfl, ?_⟩
        cases q : mAt G W H (j : Nat) (i : Nat) with
        | true =>
          rw [q] at z
          refine .inl ⟨_, _, z, rfl, ⟨_, _, _, _, rfl⟩, fun j' y => ?_⟩
          by_cases c : j' = j
          · rw [c]; exact q
          · exact al j' (by omega)
        | false =>
          rw [q] at z
          exact .inr ⟨_, _, z, rfl, j, rfl, hjW, q, al⟩)
  rcases main with ⟨τ', h', z, rfl, ⟨b', d', e', f', rfl⟩, al⟩ | ⟨t, h', z, rfl, j, rfl, hj, bd, al⟩
  · exact .inl ⟨b', d', e', f', z, fun j hj => al j (by rw [range_len]; exact hj)⟩
  · exact .inr ⟨j, hj, bd, al, z⟩
theorem wrong_gen (D : Dim G W H) (F : Fig G W H) (h : VH) : ∃ r, Wr G W H r ∧ K31.m_law_wrong [gridT G] h = .ok (lwT r) h := by
  have h1 := D.h1
  have mi : iRange1 (aCons (eCall fLen (aCons (eVar 0) aNil)) aNil) [some (gridT G), none, none, none, none, none] h = .ok (fun _ => some (rangeT 0 H)) h := by
    refine rng_ok (EV.cons (EV.call (EV.cons (EV.var rfl) EV.nil) ?_) EV.nil) (by omega)
    rw [show gridT G = T.lst (G.map fun r => .lst (r.map fun d => .int (d : Nat))) from rfl, EV.lenL, List.length_map, D.len]
  have main := sFor_or (mi := _) (g := mgName 1) (body := lwL) (τ := [some (gridT G), none, none, none, none, none]) (h := h) (h1 := h)
    (rd := fun _ => some (rangeT 0 H)) (ts := rangeT 0 H) (fun k τ h' => h' = h ∧ (∃ a b d e f, τ = [some (gridT G), a, b, d, e, f]) ∧ ∀ i', i' < k → ∀ j', j' < W → mAt G W H (j' : Nat) (i' : Nat) = true)
    (fun t h' => h' = h ∧ ∃ i j, t = .tup [.int (j : Nat), .int (i : Nat)] ∧ Wr G W H (some (j, i)))
    mi ⟨rfl, ⟨_, _, _, _, _, rfl⟩, fun i' z => by omega⟩ (fun _ _ _ _ => rfl) (fun i hi τ h' I => by
      obtain ⟨rfl, ⟨a, b, d, e, f, rfl⟩, al⟩ := I
      obtain ⟨hiH, ei⟩ := range_at hi
      rw [ei, Int.zero_add]
      refine ⟨[some (gridT G), some (.int (i : Nat)), b, d, e, f], h', rfl, ?_⟩
      rcases lwL_ok D F hiH h' b d e f with ⟨b', d', e', f', z, row⟩ | ⟨j, hj, bd, row, z⟩
      · refine .inl ⟨_, _, z, rfl, ⟨_, _, _, _, _, rfl⟩, fun i' q j' hj' => ?_⟩
        by_cases c : i' = i
        · rw [c]; exact row j' hj'
        · exact al i' (by omega) j' hj'
      · exact .inr ⟨_, _, z, rfl, i, j, rfl, .some hiH hj bd row al⟩)
  rw [lw_eq]
  rcases main with ⟨τ', h', z, rfl, ⟨a, b, d, e, f, rfl⟩, al⟩ | ⟨t, h', z, rfl, i, j, rfl, w⟩
  · exact ⟨none, .none fun i hi j hj => al i (by rw [range_len]; exact hi) j hj, defM_rt rfl ((seq_nx z).trans (ret_ok rfl))⟩
  · exact ⟨_, w, defM_rt rfl (seq_rt z)⟩
end
end RQ
set_option Elab.async false
set_option linter.all false
set_option maxRecDepth 100000
set_option maxHeartbeats 400000
namespace RQ
open PySem L2 TL KG K33 PG
abbrev eqA : T → T → VH → Res T := bAlt TL.bEq bEqDD
abbrev sqB (x : TyC) : Bool := isiB x (.b "tuple") || isiB x (.b "list")
/-- alike, by the law's own look, at most k deep -/
inductive Al (h : VH) : Nat → T → T → Prop
  | leaf {k : Nat} {t u : T} {x : TyC} (tx : tyOf h t = some x) (ux : tyOf h u = some x) (ns : sqB x = false) (eq : eqA t u h = .ok (.bl true) h) : Al h (k + 1) t u
  | seq {k : Nat} {t u : T} {x : TyC} {ts us : List T} (tx : tyOf h t = some x) (ux : tyOf h u = some x) (sq : sqB x = true) (lt : fLen [t] h = .ok (.int (ts.length : Nat)) h) (lu : fLen [u] h = .ok (.int (ts.length : Nat)) h) (few : ts.length ≤ 1000)
      (it : ∀ (i : Nat) (w : T), ts[i]? = some w → TL.bIx t (.int (i : Nat)) h = .ok w h) (iu : ∀ (i : Nat) (w : T), us[i]? = some w → TL.bIx u (.int (i : Nat)) h = .ok w h) (hl : us.length = ts.length)
      (all : ∀ (i : Nat) (w z : T), ts[i]? = some w → us[i]? = some z → Al h k w z) : Al h (k + 1) t u
theorem eq_bl (b : Bool) (h : VH) : TL.bEq (.bl b) (.bl b) h = .ok (.bl true) h := by cases b <;> rfl
abbrev sm4 : MA := aLim (aCons (eOp TL.bEq (eIsi (.b "tuple") (eVar 0)) (eIsi (.b "tuple") (eVar 1))) (aCons (eOp TL.bEq (eIsi (.b "list") (eVar 0)) (eIsi (.b "list") (eVar 1))) (aCons (eOp TL.bEq (eIsi (.b "bool") (eVar 0)) (eIsi (.b "bool") (eVar 1))) (aCons (eOp TL.bEq (eIsi (.b "int") (eVar 0)) (eIsi (.b "int") (eVar 1))) aNil))))
abbrev smB : MS := (sIf (TL.bNot (bTest (eVar 2))) (sRet (eK (.bl false))) sNil)
abbrev smT : MB := (TL.bOr (bTest (eIsi (.b "tuple") (eVar 0))) (bTest (eIsi (.b "list") (eVar 0))))
abbrev smE (rec : List T → VH → Res T) : ME := (eCall rec (aCons (eOp TL.bIx (eVar 0) (eVar 3)) (aCons (eOp TL.bIx (eVar 1) (eVar 3)) aNil)))
abbrev smR (rec : List T → VH → Res T) : ME := (eAnd (eOp TL.bEq (eCall fLen (aCons (eVar 0) aNil)) (eCall fLen (aCons (eVar 1) aNil))) (eCall fAll (aCons (eL (mLc (iRange1 (aCons (eCall fLen (aCons (eVar 0) aNil)) aNil)) [3] (mgName 3) bYes (smE rec))) aNil)))
theorem sm_eq (rec : List T → VH → Res T) : K31.s_law_same rec = sSeq (sFor (iSeqC (eL sm4)) (mgName 2) smB) (sSeq (sIf smT (sRet (smR rec)) sNil) (sRet (eOp eqA (eVar 0) (eVar 1)))) := rfl
theorem same_ok {h : VH} : ∀ (k : Nat) (t u : T), Al h k t u → K31.m_law_same k [t, u] h = .ok (.bl true) h
  | 0, t, u, a => by cases a
  | k + 1, t, u, a => by
    obtain ⟨x, tx, ux⟩ : ∃ x, tyOf h t = some x ∧ tyOf h u = some x := by cases a with
      | leaf tx ux => exact ⟨_, tx, ux⟩
      | seq tx ux => exact ⟨_, tx, ux⟩
    have isi0 : ∀ (y : TyC) (c d : Option T), eIsi y (eVar 0) [some t, some u, c, d] h = .ok (.bl (isiB x y)) h := fun y c d => EV.isi (EV.var rfl) tx
    have isi1 : ∀ (y : TyC) (c d : Option T), eIsi y (eVar 1) [some t, some u, c, d] h = .ok (.bl (isiB x y)) h := fun y c d => EV.isi (EV.var rfl) ux
    have one : ∀ y : TyC, eOp TL.bEq (eIsi y (eVar 0)) (eIsi y (eVar 1)) [some t, some u, none, none] h = .ok (.bl true) h := fun y => EV.op (isi0 y _ _) (isi1 y _ _) (eq_bl _ h)
    have L := sFor_inv (mi := iSeqC (eL sm4)) (g := mgName 2) (body := smB) (τ := [some t, some u, none, none]) (h := h) (h1 := h) (rd := fun h => seqS h (.lst [.bl true, .bl true, .bl true, .bl true])) (ts := [.bl true, .bl true, .bl true, .bl true])
      (fun _ τ h' => h' = h ∧ ∃ c, τ = [some t, some u, c, none])
      (by
        have e : eL sm4 [some t, some u, none, none] h = .ok (.lst [.bl true, .bl true, .bl true, .bl true]) h := EV.lst (EV.lim (EV.cons (one _) (EV.cons (one _) (EV.cons (one _) (EV.cons (one _) EV.nil)))) (by simp))
        unfold iSeqC
        rw [e]
        exact if_pos rfl) ⟨rfl, none, rfl⟩ (fun _ _ _ _ => rfl) (fun i hi τ h' J => by
        obtain ⟨rfl, c, rfl⟩ := J
        have ei : [T.bl true, .bl true, .bl true, .bl true][i] = .bl true := by
          have hi : i < 4 := hi
          have : i = 0 ∨ i = 1 ∨ i = 2 ∨ i = 3 := by omega
          rcases this with rfl | rfl | rfl | rfl <;> rfl
        rw [ei]
        exact ⟨[some t, some u, some (.bl true), none], h', [some t, some u, some (.bl true), none], h', rfl, .inl rfl, rfl, _, rfl⟩)
    obtain ⟨τ', h', S1, rfl, c, rfl⟩ := L
    show defM 4 2 (K31.s_law_same (K31.m_law_same k)) [t, u] h' = _
    refine defM_rt rfl ?_
    rw [sm_eq]
    refine (seq_nx S1).trans ?_
    have T0 : smT [some t, some u, c, none] h' = .ok (sqB x) h' := by
      refine EV.bor (EV.test (isi0 _ _ _)) ?_
      cases q : isiB x (.b "tuple") with
      | true => show Res.ok true h' = Res.ok (isiB x (.b "tuple") || isiB x (.b "list")) h'; rw [q]; rfl
      | false =>
        show bTest (eIsi (.b "list") (eVar 0)) [some t, some u, c, none] h' = .ok (isiB x (.b "tuple") || isiB x (.b "list")) h'
        rw [EV.test (isi0 (.b "list") c none), q]
        rfl
    cases a with
    | leaf tx' ux' ns eq =>
      obtain rfl := Option.some.inj (tx.symm.trans tx')
      rw [ns] at T0
      exact (seq_nx ((if_f T0).trans rfl)).trans (EV.ret (EV.op (EV.var rfl) (EV.var rfl) eq))
    | @seq _ _ _ x' ts us tx' ux' sq lt lu few it iu hl all =>
      obtain rfl := Option.some.inj (tx.symm.trans tx')
      rw [sq] at T0
      refine EV.seqr ((if_t T0).trans (EV.ret ?_))
      have l0 : ∀ (c d : Option T), eCall fLen (aCons (eVar 0) aNil) [some t, some u, c, d] h' = .ok (.int (ts.length : Nat)) h' := fun c d => EV.call (EV.cons (EV.var rfl) EV.nil) lt
      have l1 : ∀ (c d : Option T), eCall fLen (aCons (eVar 1) aNil) [some t, some u, c, d] h' = .ok (.int (ts.length : Nat)) h' := fun c d => EV.call (EV.cons (EV.var rfl) EV.nil) lu
      refine EV.eand (p := true) (h1 := h') (EV.op (l0 _ _) (l1 _ _) (by rw [hEq]; simp)) (r := .ok (.bl true) h') ?_
      show eCall fAll _ _ h' = _
      have M := mLc_map (mi := iRange1 (aCons (eCall fLen (aCons (eVar 0) aNil)) aNil)) (ws := [3]) (g := mgName 3) (e := smE (K31.m_law_same k)) (τ := [some t, some u, c, none]) (h := h') (ts := rangeT 0 ts.length) (rng_ok (EV.cons (l0 _ _) EV.nil) (by omega)) rfl (by rw [TL.range_len]; omega) (fun _ => .bl true) (fun w hw => by
        obtain ⟨i, hi, rfl⟩ := List.getElem_of_mem hw
        obtain ⟨hi2, ei⟩ := TL.range_at hi
        rw [ei, Int.zero_add]
        have e1 : ts[i]? = some ts[i] := List.getElem?_eq_getElem hi2
        have e2 : us[i]? = some us[i] := List.getElem?_eq_getElem (by omega)
        refine ⟨[some t, some u, c, some (.int (i : Nat))], rfl, ?_⟩
        exact EV.call (EV.cons (EV.op (EV.var rfl) (EV.var rfl) (it i _ e1)) (EV.cons (EV.op (EV.var rfl) (EV.var rfl) (iu i _ e2)) EV.nil)) (same_ok k _ _ (all i _ _ e1 e2)))
      refine EV.call (EV.cons (EV.lst M) EV.nil) ?_
      rw [hAll]
      simp
/-- a value without parts -/
inductive At (h : VH) : T → Prop
  | non : At h .non
  | bl (b : Bool) : At h (.bl b)
  | int (i : Int) : At h (.int i)
  | str (s : Str) : At h (.str s)
  | dct {m : Nat} (e : h[m]? = some (.dct [])) : At h (.ref m)
inductive Vv (h : VH) : T → Prop
  | at_ {t : T} (a : At h t) : Vv h t
  | tup {ts : List T} (few : ts.length ≤ 3) (a : ∀ t ∈ ts, At h t) : Vv h (.tup ts)
  | lst {ts : List T} (few : ts.length ≤ 3) (a : ∀ t ∈ ts, At h t) : Vv h (.lst ts)
/-- the empty dicts stay -/
def Sd (h h' : VH) : Prop := ∀ m : Nat, h[m]? = some (.dct []) → h'[m]? = some (.dct [])
theorem At.mono {h h' : VH} (s : Sd h h') {t : T} (a : At h t) : At h' t := by
  cases a with
  | non => exact .non
  | bl b => exact .bl b
  | int i => exact .int i
  | str s => exact .str s
  | dct e => exact .dct (s _ e)
theorem Vv.mono {h h' : VH} (s : Sd h h') {t : T} (a : Vv h t) : Vv h' t := by
  cases a with
  | at_ a => exact .at_ (a.mono s)
  | tup few a => exact .tup few fun t ht => (a t ht).mono s
  | lst few a => exact .lst few fun t ht => (a t ht).mono s
theorem Sd.app {h : VH} (r : VH) : Sd h (h ++ r) := fun m e => by
  rw [List.getElem?_append_left (List.getElem?_eq_some_iff.mp e).1]; exact e
theorem Sd.set {h : VH} {n : Nat} {o p : VO} (hn : h[n]? = some p) (np : p ≠ .dct []) : Sd h (h.set n o) := fun m e => by
  rw [List.getElem?_set_ne (fun z => np (by subst z; rw [hn] at e; exact Option.some.inj e))]; exact e
theorem Sd.refl {h : VH} : Sd h h := fun _ e => e
theorem Sd.trans {a b c : VH} (x : Sd a b) (y : Sd b c) : Sd a c := fun m e => y m (x m e)
theorem isp_nd {o : VO} (i : IsP o) : o ≠ .dct [] := by
  obtain ⟨a, b, c, rfl, _⟩ := i
  intro z; cases z
theorem At.low {h : VH} {t : T} (a : At h t) {m : Nat} (hm : h.length ≤ m) : t.lowR m = true := by
  cases a with
  | non => rfl
  | bl b => rfl
  | int i => rfl
  | str s => rfl
  | dct e => exact decide_eq_true (Nat.lt_of_lt_of_le (List.getElem?_eq_some_iff.mp e).1 hm)
theorem Ats.low {h : VH} {m : Nat} (hm : h.length ≤ m) : ∀ {ts : List T}, (∀ t ∈ ts, At h t) → lowRs m ts = true
  | [], _ => rfl
  | t :: ts, a => by
    rw [lowRs, (a t (.head _)).low hm, Ats.low hm fun u hu => a u (.tail _ hu)]
    rfl
theorem Vv.low {h : VH} {t : T} (a : Vv h t) {m : Nat} (hm : h.length ≤ m) : t.lowR m = true := by
  cases a with
  | at_ a => exact a.low hm
  | tup few a => exact Ats.low hm a
  | lst few a => exact Ats.low hm a
theorem At.al {h : VH} {t : T} (a : At h t) (k : Nat) : Al h (k + 1) t t := by
  have one : ∀ {t : T} {x : TyC}, tyOf h t = some x → sqB x = false → TL.bEq t t h = .ok (.bl true) h → Al h (k + 1) t t := fun tx ns e => .leaf tx tx ns (by simp only [eqA, bAlt, e])
  cases a with
  | non => exact one rfl rfl rfl
  | bl b => exact one rfl rfl (eq_bl b h)
  | int i => exact one rfl rfl (by rw [hEq]; simp)
  | str s => exact one rfl rfl (by rw [eq_strs]; simp)
  | @dct m e =>
    refine .leaf (x := .b "dict") (by simp [tyOf, e]) (by simp [tyOf, e]) rfl ?_
    have b1 : TL.bEq (.ref m) (.ref m) h = .bad := by simp [TL.bEq, bEqG, T.dat, e]
    have b3 : bEqDD (.ref m) (.ref m) h = .ok (.bl true) h := by simp [bEqDD, e]
    show bAlt _ _ _ _ _ = _
    unfold bAlt
    rw [b1]
    simp only [b3]
theorem al_tup {h : VH} {k : Nat} {ts us : List T} (hl : us.length = ts.length) (few : ts.length ≤ 1000) (all : ∀ (i : Nat) (w z : T), ts[i]? = some w → us[i]? = some z → Al h k w z) : Al h (k + 1) (.tup ts) (.tup us) :=
  .seq (x := .b "tuple") rfl rfl rfl rfl (by rw [← hl]; rfl) few (fun i w e => EV.ixT (EV.at_nat e)) (fun i w e => EV.ixT (EV.at_nat e)) hl all
theorem al_lst {h : VH} {k : Nat} {ts us : List T} (hl : us.length = ts.length) (few : ts.length ≤ 1000) (all : ∀ (i : Nat) (w z : T), ts[i]? = some w → us[i]? = some z → Al h k w z) : Al h (k + 1) (.lst ts) (.lst us) :=
  .seq (x := .b "list") rfl rfl rfl rfl (by rw [← hl]; rfl) few (fun i w e => EV.ixL (EV.at_nat e)) (fun i w e => EV.ixL (EV.at_nat e)) hl all
theorem al_ref {h : VH} {k s : Nat} {ts us : List T} (e : h[s]? = some (.lst ts)) (hl : us.length = ts.length) (few : ts.length ≤ 1000) (all : ∀ (i : Nat) (w z : T), ts[i]? = some w → us[i]? = some z → Al h k w z) : Al h (k + 1) (.ref s) (.lst us) :=
  .seq (x := .b "list") (by simp [tyOf, e]) rfl rfl (by simp [fLen, seqOf, TL.listOf, e]) (by rw [← hl]; rfl) few (fun i w z => by
    have q := EV.at_nat z
    simp only [TL.bIx, TL.listOf, e, q]) (fun i w e => EV.ixL (EV.at_nat e)) hl all
theorem Vv.al {h : VH} {t : T} (a : Vv h t) (k : Nat) : Al h (k + 2) t t := by
  cases a with
  | at_ a => exact a.al (k + 1)
  | tup few a =>
    refine al_tup rfl (by omega) fun i w z e1 e2 => ?_
    rw [e1] at e2; cases e2
    exact (a w (List.mem_of_getElem? e1)).al k
  | lst few a =>
    refine al_lst rfl (by omega) fun i w z e1 e2 => ?_
    rw [e1] at e2; cases e2
    exact (a w (List.mem_of_getElem? e1)).al k
/-- what must be told -/
inductive Du (h : VH) : T → Prop
  | no : Du h (.tup [])
  | so (nm : Str) {t : T} (v : Vv h t) : Du h (.tup [.str nm, t])
theorem Du.al {h : VH} {t : T} (a : Du h t) (k : Nat) : Al h (k + 3) t t := by
  cases a with
  | no => exact al_tup rfl (by simp) fun i w z e1 e2 => by simp at e1
  | so nm v =>
    refine al_tup rfl (by simp) fun i w z e1 e2 => ?_
    rw [e1] at e2; cases e2
    match i, e1 with
    | 0, e1 => cases e1; exact (At.str nm).al (k + 1)
    | 1, e1 => cases e1; exact v.al k
    | i + 2, e1 => simp at e1
theorem Du.low {h : VH} {t : T} (a : Du h t) {m : Nat} (hm : h.length ≤ m) : t.lowR m = true := by
  cases a with
  | no => rfl
  | so nm v => simp [T.lowR, lowRs, v.low hm]
/-- the law's own look at what was seen -/
theorem seen_ok {h : VH} {s : Nat} {ts : List T} {d : T} (e : h[s]? = some (.lst ts)) (du : Du h d) (hd : ∀ t ∈ ts, t = d) (few : ts.length ≤ 10) : K31.m_law_same 12 [.ref s, .lst (List.replicate ts.length d)] h = .ok (.bl true) h :=
  same_ok 12 _ _ (al_ref e (by simp) (by omega) fun i w z e1 e2 => by
    have a := hd w (List.mem_of_getElem? e1)
    have b : z = d := List.eq_of_mem_replicate (List.mem_of_getElem? e2)
    rw [a, b]
    exact du.al 8)
section
variable {G : List (List Nat)} {W H n : Nat} {h : VH}
theorem pick_any (I : Iq n h) {ts : List T} (h0 : 0 < ts.length) (h1 : ts.length < 1000000) : ∃ (r : Nat) (hr : r < ts.length) (o : VO), IsP o ∧ m_law_pick [.ref n, .lst ts] h = .ok ts[r] (h.set n o) := by
  obtain ⟨r, o, e, r0, r1, io⟩ := roll_ok (k := (ts.length : Nat)) I.pu (by omega) (by omega)
  obtain ⟨k, rfl⟩ : ∃ k : Nat, r = k := ⟨r.toNat, by omega⟩
  have hk : k < ts.length := by omega
  refine ⟨k, hk, o, io, defM_rt rfl (EV.ret (EV.op (EV.var rfl) (EV.call (EV.cons (EV.var rfl) (EV.cons (EV.call (EV.cons (EV.var rfl) EV.nil) rfl) EV.nil)) e) ?_))⟩
  exact EV.ixL (EV.at_nat (List.getElem?_eq_getElem hk))
end
end RQ
set_option Elab.async false
set_option linter.all false
set_option maxRecDepth 100000
set_option maxHeartbeats 4000000
namespace RQ
open PySem L2 TL KG K33 PG
section
variable {G : List (List Nat)} {W H n : Nat} {h : VH}
inductive Bv (h : VH) : T → Prop
  | str {s : Str} (l : s.length ≤ 1000) : Bv h (.str s)
  | non : Bv h .non
  | int : Bv h (.int 64)
  | bl : Bv h (.bl true)
  | lst {s : Str} : Bv h (.lst [.str s])
  | tup : Bv h (.tup [.str "64"])
  | dct {m : Nat} (e : h[m]? = some (.dct [])) : Bv h (.ref m)
theorem Bv.mono {h h' : VH} (s : Sd h h') {t : T} (a : Bv h t) : Bv h' t := by
  cases a with
  | str l => exact .str l
  | non => exact .non
  | int => exact .int
  | bl => exact .bl
  | lst => exact .lst
  | tup => exact .tup
  | dct e => exact .dct (s _ e)
theorem Bv.vv {t : T} (a : Bv h t) : Vv h t := by
  cases a with
  | str l => exact .at_ (.str _)
  | non => exact .at_ .non
  | int => exact .at_ (.int _)
  | bl => exact .at_ (.bl _)
  | lst => exact .lst (by simp) fun t ht => by rw [List.mem_singleton.mp ht]; exact .str _
  | tup => exact .tup (by simp) fun t ht => by rw [List.mem_singleton.mp ht]; exact .str _
  | dct e => exact .at_ (.dct e)
/-- what a value tells, if anything -/
inductive Tells (h : VH) (t : T) : Prop
  | no (r : m_rows_in [t] h = .ok .non h) (l : K31.m_law_read [t] h = .ok (.tup []) h)
  | yes {s : Str} (e : t = .str s) (g : goodB s = true) (l : s.length ≤ 1000)
theorem Bv.tells {t : T} (a : Bv h t) : Tells h t := by
  cases a with
  | @str s l =>
    cases g : goodB s with
    | true => exact .yes rfl g l
    | false =>
      have r := rows_in l h
      have q := law_read l h
      rw [g] at r q
      exact .no r q
  | non => exact .no (read_other rfl rfl).1 (read_other rfl rfl).2
  | int => exact .no (read_other (x := .b "int") rfl rfl).1 (read_other (x := .b "int") rfl rfl).2
  | bl => exact .no (read_other (x := .b "bool") rfl rfl).1 (read_other (x := .b "bool") rfl rfl).2
  | lst => exact .no (read_other (x := .b "list") rfl rfl).1 (read_other (x := .b "list") rfl rfl).2
  | tup => exact .no (read_other (x := .b "tuple") rfl rfl).1 (read_other (x := .b "tuple") rfl rfl).2
  | dct e => exact .no (read_other (x := .b "dict") (by simp [tyOf, e]) rfl).1 (read_other (x := .b "dict") (by simp [tyOf, e]) rfl).2
theorem addS {x y : Str} {h : VH} (l : x.length + y.length ≤ 1000000) : TL.bAdd (.str x) (.str y) h = .ok (.str (x ++ y)) h := if_pos l
theorem bn_len {f : ME} {τ : TS_} {h : VH} {r : Str} (e : f τ h = .ok (.str r) h) : eCall fLen (aCons f aNil) τ h = .ok (.int (r.length : Nat)) h := EV.call (EV.cons e EV.nil) rfl
/-- one of the signs of a text -/
theorem pick_sign (I : Iq n h) {z : Str} (l0 : 0 < z.length) (l1 : z.length < 1000000) : ∃ (c : Nat) (o : VO), IsP o ∧ m_law_pick [.ref n, .str z] h = .ok (.str ⟨#[c]⟩) (h.set n o) := by
  obtain ⟨r, o, e, r0, r1, io⟩ := roll_ok (k := (z.length : Nat)) I.pu (by omega) (by omega)
  obtain ⟨k, rfl⟩ : ∃ k : Nat, r = k := ⟨r.toNat, by omega⟩
  have hk : k < z.cps.toList.length := by rw [Array.length_toList]; unfold Str.length at r1; omega
  refine ⟨z.cps.toList[k], o, io, defM_rt rfl (EV.ret (EV.op (EV.var rfl) (EV.call (EV.cons (EV.var rfl) (EV.cons (EV.call (EV.cons (EV.var rfl) EV.nil) rfl) EV.nil)) e) ?_))⟩
  have : atI z.cps.toList (k : Nat) = some z.cps.toList[k] := by
    rw [ix_nn (by omega) (by omega)]
    show z.cps.toList[((k : Nat) : Int).toNat]? = _
    rw [Int.toNat_natCast, List.getElem?_eq_getElem hk]
  simp only [TL.bIx, this]
abbrev n1 : MS := (sPar 2 3 (aCons (eCall m_law_roll (aCons (eVar 0) (aCons (eOp TL.bAdd (eCall fLen (aCons (eVar 1) aNil)) (eK (.int 1))) aNil))) (aCons (eCall m_law_pick (aCons (eVar 0) (aCons (eK (.str "012345678949/ a-")) aNil))) aNil)))
abbrev nO : ME := (eOp TL.bAdd (eOp TL.bAdd (eSl (eVar 1) oNo (oSome (eVar 2))) (eVar 3)) (eSl (eVar 1) (oSome (eOp TL.bAdd (eVar 2) (eK (.int 1)))) oNo))
abbrev nI : ME := (eOp TL.bAdd (eOp TL.bAdd (eSl (eVar 1) oNo (oSome (eVar 2))) (eVar 3)) (eSl (eVar 1) (oSome (eVar 2)) oNo))
abbrev nX : ME := (eOp TL.bAdd (eSl (eVar 1) oNo (oSome (eVar 2))) (eSl (eVar 1) (oSome (eOp TL.bAdd (eVar 2) (eK (.int 1)))) oNo))
abbrev n4L : ME := (eL (aLim (aCons (eOp TL.bAdd (eOp TL.bAdd (eVar 1) (eK (.str "/"))) (eVar 1)) (aCons (eOp TL.bAdd (eK (.str "/")) (eVar 1)) (aCons (eOp TL.bAdd (eVar 1) (eVar 1)) (aCons (eOp TL.bAdd (eVar 1) (eK (.str "\n"))) (aCons (eK .non) (aCons (eL (aLim (aCons (eVar 1) aNil))) aNil))))))))
abbrev nJ : ME := (eMt "str" mJoin (eK (.str "/")) (aCons (eL (mMul (eL (aLim (aCons (eK (.str "0")) aNil))) (eK (.int 13)))) aNil))
abbrev n5L : ME := (eL (aLim (aCons (eK (.int 64)) (aCons (eK (.str "")) (aCons (eTup (aCons (eK (.str "64")) aNil)) (aCons (eOp bMulS (eK (.str "0")) (eK (.int 13))) (aCons nJ (aCons (eK (.bl true)) (aCons eDNew aNil)))))))))
theorem bn_eq : K31.m_law_bent = defM 6 2 (sSeq n1 (sSeq (sSet 4 nO) (sSeq (sSet 5 (eL (aLim (aCons (eVar 1) (aCons nI (aCons (eVar 4) (aCons nX aNil))))))) (sSeq (sSet 5 (eOp TL.bAdd (eVar 5) n4L)) (sSeq (sSet 5 (eOp TL.bAdd (eVar 5) n5L)) (sRet (eCall m_law_pick (aCons (eVar 0) (aCons (eOp TL.bAdd (eVar 5) (eL (mMul (eL (aLim (aCons (eVar 4) aNil))) (eK (.int 4))))) aNil))))))))) := rfl
theorem mulS13 (τ : TS_) (h : VH) : eOp bMulS (eK (.str "0")) (eK (.int 13)) τ h = .ok (.str (timesS "0" 13)) h := by
  refine EV.op EV.const EV.const ?_
  unfold bMulS
  exact if_pos (by decide +kernel)
theorem j13 (τ : TS_) (h : VH) : nJ τ h = .ok (.str (Txt.join "/" (List.replicate 13 ("0" : Str)))) h := by
  refine EV.mt EV.const rfl (EV.cons (EV.lst (show mMul _ _ τ h = .ok (List.replicate 13 (T.str "0")) h from rfl)) EV.nil) ?_
  have s1 : seqOf h (.lst (List.replicate 13 (T.str "0"))) = some ((List.replicate 13 ("0" : Str)).map T.str) := rfl
  simp only [mJoin, s1, strsOf_map]
  exact if_pos (by decide +kernel)
theorem bent_ok (I : Iq n h) {s : Str} (hs : s.length ≤ 400) : ∃ (t : T) (h' : VH), K31.m_law_bent [.ref n, .str s] h = .ok t h' ∧ Bv h' t ∧ Iq n h' ∧ Sd h h' := by
  obtain ⟨r, o1, e1, r0, r1, i1⟩ := roll_ok (k := (s.length : Int) + 1) I.pu (by omega) (by omega)
  obtain ⟨p1, g1, ip1⟩ := I.pu
  have d1 : Sd h (h.set n o1) := Sd.set g1 (isp_nd ip1)
  have I1 := I.set i1
  obtain ⟨k1, hk1⟩ : ∃ k, k = h.set n o1 := ⟨_, rfl⟩
  rw [← hk1] at e1 d1 I1
  obtain ⟨c, o2, i2, e2⟩ := pick_sign (z := "012345678949/ a-") I1 (by decide +kernel) (by decide +kernel)
  obtain ⟨p2, g2, ip2⟩ := I1.pu
  have d2 : Sd k1 (k1.set n o2) := Sd.set g2 (isp_nd ip2)
  have I2 := I1.set i2
  obtain ⟨k2, hk2⟩ : ∃ k, k = k1.set n o2 := ⟨_, rfl⟩
  rw [← hk2] at e2 d2 I2
  obtain ⟨z, hz⟩ : ∃ z : Str, z = ⟨#[c]⟩ := ⟨_, rfl⟩
  have zl : z.length = 1 := by rw [hz]; rfl
  rw [← hz] at e2
  have S1 : n1 (startT 6 [.ref n, .str s]) h = .nx [some (.ref n), some (.str s), some (.int r), some (.str z), none, none] k2 :=
    EV.par (EV.cons (EV.call (EV.cons (EV.var rfl) (EV.cons (EV.op (bn_len (EV.var rfl)) EV.const (hAdd _ _ _)) EV.nil)) e1) (EV.cons (EV.call (EV.cons (EV.var rfl) (EV.cons EV.const EV.nil)) e2) EV.nil)) rfl
  have ca := cutS_length s none (some r)
  have cb := cutS_length s (some (r + 1)) none
  have cc := cutS_length s (some r) none
  have l1 : ∀ (a b : Option T), eSl (eVar 1) oNo (oSome (eVar 2)) [some (.ref n), some (.str s), some (.int r), some (.str z), a, b] k2 = .ok (.str (cutS s none (some r))) k2 := fun a b => EV.sl (EV.var rfl) EV.ono (EV.osome (EV.var rfl)) rfl
  have l2 : ∀ (a b : Option T), eSl (eVar 1) (oSome (eOp TL.bAdd (eVar 2) (eK (.int 1)))) oNo [some (.ref n), some (.str s), some (.int r), some (.str z), a, b] k2 = .ok (.str (cutS s (some (r + 1)) none)) k2 := fun a b => EV.sl (EV.var rfl) (EV.osome (EV.op (EV.var rfl) EV.const (hAdd _ _ _))) EV.ono rfl
  have l3 : ∀ (a b : Option T), eSl (eVar 1) (oSome (eVar 2)) oNo [some (.ref n), some (.str s), some (.int r), some (.str z), a, b] k2 = .ok (.str (cutS s (some r) none)) k2 := fun a b => EV.sl (EV.var rfl) (EV.osome (EV.var rfl)) EV.ono rfl
  obtain ⟨x1, hx1⟩ : ∃ x, x = cutS s none (some r) ++ z ++ cutS s (some (r + 1)) none := ⟨_, rfl⟩
  obtain ⟨x2, hx2⟩ : ∃ x, x = cutS s none (some r) ++ z ++ cutS s (some r) none := ⟨_, rfl⟩
  obtain ⟨x3, hx3⟩ : ∃ x, x = cutS s none (some r) ++ cutS s (some (r + 1)) none := ⟨_, rfl⟩
  have y1 : x1.length ≤ 1000 := by rw [hx1, len_app, len_app]; omega
  have y2 : x2.length ≤ 1000 := by rw [hx2, len_app, len_app]; omega
  have y3 : x3.length ≤ 1000 := by rw [hx3, len_app]; omega
  have E1 : nO [some (.ref n), some (.str s), some (.int r), some (.str z), none, none] k2 = .ok (.str x1) k2 := by
    rw [hx1]
    exact EV.op (EV.op (l1 _ _) (EV.var rfl) (addS (by omega))) (l2 _ _) (addS (by rw [len_app]; omega))
  have S2 : sSet 4 nO [some (.ref n), some (.str s), some (.int r), some (.str z), none, none] k2 = .nx [some (.ref n), some (.str s), some (.int r), some (.str z), some (.str x1), none] k2 := EV.set E1 rfl
  have E2 : nI [some (.ref n), some (.str s), some (.int r), some (.str z), some (.str x1), none] k2 = .ok (.str x2) k2 := by
    rw [hx2]
    exact EV.op (EV.op (l1 _ _) (EV.var rfl) (addS (by omega))) (l3 _ _) (addS (by rw [len_app]; omega))
  have E3 : nX [some (.ref n), some (.str s), some (.int r), some (.str z), some (.str x1), none] k2 = .ok (.str x3) k2 := by
    rw [hx3]
    exact EV.op (l1 _ _) (l2 _ _) (addS (by omega))
  obtain ⟨L1, hL1⟩ : ∃ L : List T, L = [.str s, .str x2, .str x1, .str x3] := ⟨_, rfl⟩
  have S3 : sSet 5 (eL (aLim (aCons (eVar 1) (aCons nI (aCons (eVar 4) (aCons nX aNil)))))) [some (.ref n), some (.str s), some (.int r), some (.str z), some (.str x1), none] k2 = .nx [some (.ref n), some (.str s), some (.int r), some (.str z), some (.str x1), some (.lst L1)] k2 := by
    rw [hL1]
    exact EV.set (EV.lst (EV.lim (EV.cons (EV.var rfl) (EV.cons E2 (EV.cons (EV.var rfl) (EV.cons E3 EV.nil)))) (by simp))) rfl
  have sl : ("/" : Str).length = 1 := by decide
  have nl : ("\n" : Str).length = 1 := by decide
  obtain ⟨L2, hL2⟩ : ∃ L : List T, L = [.str (s ++ "/" ++ s), .str ("/" ++ s), .str (s ++ s), .str (s ++ "\n"), .non, .lst [.str s]] := ⟨_, rfl⟩
  have E4 : n4L [some (.ref n), some (.str s), some (.int r), some (.str z), some (.str x1), some (.lst L1)] k2 = .ok (.lst L2) k2 := by
    rw [hL2]
    refine EV.lst (EV.lim (EV.cons (EV.op (EV.op (EV.var rfl) EV.const (addS (by omega))) (EV.var rfl) (addS (by rw [len_app]; omega))) (EV.cons (EV.op EV.const (EV.var rfl) (addS (by omega))) (EV.cons (EV.op (EV.var rfl) (EV.var rfl) (addS (by omega))) (EV.cons (EV.op (EV.var rfl) EV.const (addS (by omega))) (EV.cons EV.const (EV.cons (EV.lst (EV.lim (EV.cons (EV.var rfl) EV.nil) (by simp))) EV.nil)))))) (by simp))
  have S4 : sSet 5 (eOp TL.bAdd (eVar 5) n4L) [some (.ref n), some (.str s), some (.int r), some (.str z), some (.str x1), some (.lst L1)] k2 = .nx [some (.ref n), some (.str s), some (.int r), some (.str z), some (.str x1), some (.lst (L1 ++ L2))] k2 :=
    EV.set (EV.op (EV.var rfl) E4 (EV.addL (by rw [hL1, hL2]; simp))) rfl
  obtain ⟨L3, hL3⟩ : ∃ L : List T, L = [.int 64, .str "", .tup [.str "64"], .str (timesS "0" 13), .str (Txt.join "/" (List.replicate 13 ("0" : Str))), .bl true, .ref k2.length] := ⟨_, rfl⟩
  have E5 : n5L [some (.ref n), some (.str s), some (.int r), some (.str z), some (.str x1), some (.lst (L1 ++ L2))] k2 = .ok (.lst L3) (k2 ++ [.dct []]) := by
    rw [hL3]
    exact EV.lst (EV.lim (EV.cons EV.const (EV.cons EV.const (EV.cons (EV.tup (EV.cons EV.const EV.nil) (by simp)) (EV.cons (mulS13 _ _) (EV.cons (j13 _ _) (EV.cons EV.const (EV.cons (t := .ref k2.length) (h1 := k2 ++ [.dct []]) rfl EV.nil))))))) (by simp))
  have I3 : Iq n (k2 ++ [.dct []]) := I2.app fun m _ => rfl
  have d3 : Sd k2 (k2 ++ [.dct []]) := Sd.app _
  obtain ⟨k3, hk3⟩ : ∃ k, k = k2 ++ [VO.dct []] := ⟨_, rfl⟩
  have x3 : k3[k2.length]? = some (.dct []) := by rw [hk3, List.getElem?_append_right (Nat.le_refl _), Nat.sub_self]; rfl
  rw [← hk3] at E5 I3 d3
  have S5 : sSet 5 (eOp TL.bAdd (eVar 5) n5L) [some (.ref n), some (.str s), some (.int r), some (.str z), some (.str x1), some (.lst (L1 ++ L2))] k2 = .nx [some (.ref n), some (.str s), some (.int r), some (.str z), some (.str x1), some (.lst (L1 ++ L2 ++ L3))] k3 :=
    EV.set (EV.op (EV.var rfl) E5 (EV.addL (by rw [hL1, hL2, hL3]; simp))) rfl
  obtain ⟨L4, hL4⟩ : ∃ L : List T, L = [.str x1, .str x1, .str x1, .str x1] := ⟨_, rfl⟩
  have E6 : (eOp TL.bAdd (eVar 5) (eL (mMul (eL (aLim (aCons (eVar 4) aNil))) (eK (.int 4))))) [some (.ref n), some (.str s), some (.int r), some (.str z), some (.str x1), some (.lst (L1 ++ L2 ++ L3))] k3 = .ok (.lst (L1 ++ L2 ++ L3 ++ L4)) k3 := by
    refine EV.op (EV.var rfl) (u := .lst L4) (h2 := k3) ?_ (EV.addL (by rw [hL1, hL2, hL3, hL4]; simp))
    rw [hL4]
    exact EV.lst rfl
  have bv : ∀ t ∈ L1 ++ L2 ++ L3 ++ L4, Bv k3 t := by
    intro t ht
    rw [hL1, hL2, hL3, hL4] at ht
    simp only [List.cons_append, List.nil_append, List.mem_cons, List.not_mem_nil, or_false] at ht
    rcases ht with rfl | rfl | rfl | rfl | rfl | rfl | rfl | rfl | rfl | rfl | rfl | rfl | rfl | rfl | rfl | rfl | rfl | rfl | rfl | rfl | rfl
    · exact .str (by omega)
    · exact .str y2
    · exact .str y1
    · exact .str y3
    · exact .str (by rw [len_app, len_app]; omega)
    · exact .str (by rw [len_app]; omega)
    · exact .str (by rw [len_app]; omega)
    · exact .str (by rw [len_app]; omega)
    · exact .non
    · exact .lst
    · exact .int
    · exact .str (by decide)
    · exact .tup
    · exact .str (by decide +kernel)
    · exact .str (by decide +kernel)
    · exact .bl
    · exact .dct x3
    all_goals exact .str y1
  obtain ⟨q, hq, o4, i4, e4⟩ := pick_any (ts := L1 ++ L2 ++ L3 ++ L4) I3 (by rw [hL1]; simp) (by rw [hL1, hL2, hL3, hL4]; simp)
  obtain ⟨p4, g4, ip4⟩ := I3.pu
  have d4 : Sd k3 (k3.set n o4) := Sd.set g4 (isp_nd ip4)
  refine ⟨_, k3.set n o4, ?_, (bv _ (List.getElem_mem hq)).mono d4, I3.set i4, d1.trans (d2.trans (d3.trans d4))⟩
  rw [bn_eq]
  exact defM_rt rfl ((seq_nx S1).trans ((seq_nx S2).trans ((seq_nx S3).trans ((seq_nx S4).trans ((seq_nx S5).trans (EV.ret (EV.call (EV.cons (EV.var rfl) (EV.cons E6 EV.nil)) e4)))))))
end
end RQ
set_option Elab.async false
set_option linter.all false
set_option maxRecDepth 100000
set_option maxHeartbeats 4000000
namespace RQ
open PySem L2 TL KG K33 PG
section
variable {G : List (List Nat)} {W H n : Nat} {h : VH}
abbrev mxI : List T → VH → ResX := K31.mx_Pattern___init__
theorem init_no {t : T} {m : Nat} (r : m_rows_in [t] h = .ok .non h) : mxI [.ref m, t] h = .xc 0 [t] h :=
  EV.dfxc rfl (EV.xsq (EV.xl (EV.set (EV.call (EV.cons (EV.var rfl) EV.nil) r) rfl)) (EV.xsqc (EV.xitt (EV.test (EV.op (EV.var rfl) EV.const rfl)) (EV.xrs (EV.var rfl)))))
theorem init_yes {s : Str} (g : goodB s = true) (l : s.length ≤ 1000) (h : VH) : ∃ r, Wr (gridOf s) (firstW s) (rowsOf s).length r ∧ mxI [.ref h.length, .str s] (h ++ [.ins 2 []]) = (match r with
    | none => .ok .non (h ++ [.ins 2 [.str s, rowsT (gridOf s)]])
    | some _ => .xc 14 [fwT r] (h ++ [.ins 2 [.str s, rowsT (gridOf s)]])) := by
  obtain ⟨D, A, es, er⟩ := good_grid g
  have r1 := rows_in l (h ++ [.ins 2 []])
  rw [g, if_pos rfl] at r1
  have g0 : (h ++ [VO.ins 2 []])[h.length]? = some (.ins 2 []) := by simp
  have s1 : (h ++ [VO.ins 2 []]).set h.length (.ins 2 [.str s]) = h ++ [.ins 2 [.str s]] := by simp
  have g1 : (h ++ [VO.ins 2 [.str s]])[h.length]? = some (.ins 2 [.str s]) := by simp
  have s2 : (h ++ [VO.ins 2 [.str s]]).set h.length (.ins 2 [.str s, rowsT (gridOf s)]) = h ++ [.ins 2 [.str s, rowsT (gridOf s)]] := by simp
  have g2 : getI (h ++ [VO.ins 2 [.str s, rowsT (gridOf s)]]) (.ref h.length) = some (2, [.str s, rowsT (gridOf s)]) := by simp [getI]
  obtain ⟨r, w, f1⟩ := first_gen D (Fig.of D A) g2
  refine ⟨r, w, ?_⟩
  have S1 : sSet 2 (eCall m_rows_in (aCons (eVar 1) aNil)) (startT 4 [.ref h.length, .str s]) (h ++ [.ins 2 []]) = .nx [some (.ref h.length), some (.str s), some (rowsT (gridOf s)), none] (h ++ [.ins 2 []]) := EV.set (EV.call (EV.cons (EV.var rfl) EV.nil) r1) rfl
  have C1 : bTest (eOp bIs (eVar 2) (eK .non)) [some (.ref h.length), some (.str s), some (rowsT (gridOf s)), none] (h ++ [.ins 2 []]) = .ok false (h ++ [.ins 2 []]) := EV.test (EV.op (EV.var rfl) EV.const rfl)
  have S2 : sAsg (eTup (aCons (eVar 1) (aCons (eVar 2) aNil))) (mgTup 2 (mgsCons (mgFld 2 0 (eVar 0)) (mgsCons (mgFld 2 1 (eVar 0)) mgsNil))) [some (.ref h.length), some (.str s), some (rowsT (gridOf s)), none] (h ++ [.ins 2 []]) = .nx [some (.ref h.length), some (.str s), some (rowsT (gridOf s)), none] (h ++ [.ins 2 [.str s, rowsT (gridOf s)]]) := by
    simp [sAsg, eTup, aCons, aNil, eVar, mgTup, mgsCons, mgFld, mgsNil, g0, s1, g1, s2]
  have S3 : sSet 3 (eCall m_first_wrong (aCons (eVar 0) aNil)) [some (.ref h.length), some (.str s), some (rowsT (gridOf s)), none] (h ++ [.ins 2 [.str s, rowsT (gridOf s)]]) = .nx [some (.ref h.length), some (.str s), some (rowsT (gridOf s)), some (fwT r)] (h ++ [.ins 2 [.str s, rowsT (gridOf s)]]) := EV.set (EV.call (EV.cons (EV.var rfl) EV.nil) f1) rfl
  have X : ∀ q, mxIf (bTest (eOp bIsn (eVar 3) (eK .non))) (mxRaise 14 (eVar 3)) (mxL sNil) [some (.ref h.length), some (.str s), some (rowsT (gridOf s)), some (fwT r)] (h ++ [.ins 2 [.str s, rowsT (gridOf s)]]) = q → mxSeq (mxL (sSet 2 (eCall m_rows_in (aCons (eVar 1) aNil)))) (mxSeq (mxIf (bTest (eOp bIs (eVar 2) (eK .non))) (mxRaise 0 (eVar 1)) (mxL sNil)) (mxSeq (mxL (sAsg (eTup (aCons (eVar 1) (aCons (eVar 2) aNil))) (mgTup 2 (mgsCons (mgFld 2 0 (eVar 0)) (mgsCons (mgFld 2 1 (eVar 0)) mgsNil))))) (mxSeq (mxL (sSet 3 (eCall m_first_wrong (aCons (eVar 0) aNil)))) (mxIf (bTest (eOp bIsn (eVar 3) (eK .non))) (mxRaise 14 (eVar 3)) (mxL sNil))))) (startT 4 [.ref h.length, .str s]) (h ++ [.ins 2 []]) = q := fun q e =>
    EV.xsq (EV.xl S1) (EV.xsq (EV.xitf C1 (EV.xl rfl)) (EV.xsq (EV.xl S2) (EV.xsq (EV.xl S3) e)))
  cases r with
  | none => exact EV.dfxn rfl (X _ (EV.xitf (EV.test (EV.op (EV.var rfl) EV.const rfl)) (EV.xl rfl)))
  | some p => exact EV.dfxc rfl (X _ (EV.xitt (EV.test (EV.op (EV.var rfl) EV.const rfl)) (EV.xrs (EV.var rfl))))
/-- what is caught, and what it left is forgotten -/
theorem caught_ok {f : MEX} {τ : TS_} {d : T} {R : VH} (I : Iq n h) (du : Du h d) (e : K31.cat_law_caught (f τ h) = .ok d (h ++ R)) : eCut (eLam K31.cat_law_caught f) τ h = .ok d h := by
  unfold eCut eLam
  rw [e]
  have l := I.low0
  have tk : (h ++ R).take h.length = h := by simp
  have fz : frz h.length (h ++ R) 4 d = some d := by
    unfold frz
    rw [du.low (Nat.le_refl _)]
    rfl
  simp only [tk, l, if_true, fz]
abbrev v8 : MB := bTest (eOp bNe (eVar 12) (eTup aNil))
abbrev dWr : ME := (eCall K31.m_law_wrong (aCons (eVar 12) aNil))
abbrev dIf : MS := (sIf v8 (sSet 10 (eIf (bTest (eOp bNe dWr (eTup aNil))) (eTup (aCons (eK (.str "NotMutual")) (aCons dWr aNil))) (eTup aNil))) sNil)
abbrev mkC (a : MA) : ME := eCut (eLam K31.cat_law_caught (eCallX (makeX 2 mxI) a))
abbrev zF (n : Nat) (a1 a2 a3 a4 a5 a6 a7 a8 a9 a10 a11 a12 : Option T) : TS_ := [some (.ref n), a1, a2, a3, a4, a5, a6, a7, a8, a9, a10, a11, a12]
theorem grid_ne (h : VH) : TL.bNe (gridT G) (.tup []) h = .ok (.bl true) h := by
  have e : T.dat h 10 (gridT G) = some (.list (G.map fun r => .list (r.map fun d => .int (d : Nat)))) := by
    unfold gridT
    rw [dat_lst, List.mapM_map]
    have : List.mapM ((T.dat h 9) ∘ fun r : List Nat => T.lst (r.map fun d => .int (d : Nat))) G = some (G.map fun r => .list (r.map fun d => .int (d : Nat))) := mapM_some fun r _ => dat_ints h 8 r
    rw [this]
    rfl
  have e2 : T.dat h 10 (.tup []) = some (.tuple []) := rfl
  unfold TL.bNe bEqG
  rw [e, e2]
  rfl
/-- a value: what is due, and that it is caught -/
theorem case_val (I : Iq n h) {t : T} (b : Bv h t) (a1 a2 a3 a4 a5 a6 a7 a8 a9 a10 a12 : Option T) : ∃ rd d, Du h d ∧ K31.m_law_read [t] h = .ok rd h ∧
    dIf (zF n a1 a2 a3 a4 a5 a6 a7 a8 a9 (some (.tup [.str "InvalidText", t])) (some t) (some rd)) h = .nx (zF n a1 a2 a3 a4 a5 a6 a7 a8 a9 (some d) (some t) (some rd)) h ∧
    (∀ (h' : VH) (τ : TS_) (a : MA), Iq n h' → Bv h' t → Du h' d → a τ h' = .ok [t] h' → mkC a τ h' = .ok d h') ∧ (∀ h', Bv h' t → Du h' d) ∧
    (bEqE d (.tup []) h = .ok (.bl true) h ∧ (∃ G' W' H', Dim G' W' H' ∧ K33.Mut G' W' H' ∧ t = .str (spell G')) ∨ ∀ h', bEqE d (.tup []) h' = .ok (.bl false) h') := by
  have key : ∀ {h' : VH} {τ : TS_} {a : MA} {d : T} {R : VH}, Iq n h' → Du h' d → a τ h' = .ok [t] h' → K31.cat_law_caught (makeX 2 mxI [t] h') = .ok d (h' ++ R) → mkC a τ h' = .ok d h' := fun {h'} {τ} {a} {d} {R} I du ea e => caught_ok I du (by rw [EV.xcall ea rfl]; exact e)
  cases b.tells with
  | no r l =>
    refine ⟨.tup [], .tup [.str "InvalidText", t], .so _ b.vv, l, (if_f (h1 := h) rfl).trans rfl, fun h' τ a I' b' du ea => ?_, fun h' b' => .so _ b'.vv, .inr fun h' => ?_⟩
    · have b2 : Bv (h' ++ [VO.ins 2 []]) t := b'.mono (Sd.app _)
      cases b2.tells with
      | no r2 l2 => exact key (R := [.ins 2 []]) I' du ea (by rw [EV.xmkc (init_no r2)]; rfl)
      | @yes s e g le =>
        exfalso
        subst e
        have q := law_read le h
        rw [g, l] at q
        injection q with q _
        cases q
    · rfl
  | @yes s e g le =>
    subst e
    obtain ⟨D, A, es, er⟩ := good_grid g
    have F := Fig.of D A
    have rd := law_read le h
    rw [g, if_pos rfl] at rd
    obtain ⟨r, w, ew⟩ := wrong_gen D F h
    have made : ∀ h', ∃ R, mxI [.ref h'.length, .str s] (h' ++ [.ins 2 []]) = (match r with
        | none => .ok .non (h' ++ R)
        | some _ => .xc 14 [fwT r] (h' ++ R)) := fun h' => by
      obtain ⟨r', w', e'⟩ := init_yes g le h'
      obtain rfl := w.uniq w'
      exact ⟨_, e'⟩
    have C8 : v8 (zF n a1 a2 a3 a4 a5 a6 a7 a8 a9 (some (.tup [.str "InvalidText", .str s])) (some (.str s)) (some (gridT (gridOf s)))) h = .ok true h := EV.test (EV.op (EV.var rfl) rfl (grid_ne h))
    cases r with
    | none =>
      refine ⟨gridT (gridOf s), .tup [], .no, rd, (if_t C8).trans (EV.set (EV.eif (p := false) (EV.test (EV.op (EV.call (EV.cons (EV.var rfl) EV.nil) ew) rfl rfl)) ((if_neg Bool.false_ne_true).trans rfl)) rfl), fun h' τ a I' b' du ea => ?_, fun h' b' => .no, .inl ⟨rfl, gridOf s, _, _, D, w.mut D F, by rw [← es]⟩⟩
      obtain ⟨R, e⟩ := made h'
      exact key (R := R) I' du ea (by rw [EV.xmk e]; rfl)
    | some p =>
      obtain ⟨j, i⟩ := p
      have du : ∀ h', Du h' (.tup [.str "NotMutual", .tup [.int (j : Nat), .int (i : Nat)]]) := fun h' => .so _ (.tup (by simp) fun t ht => by
        simp only [List.mem_cons, List.not_mem_nil, or_false] at ht
        rcases ht with rfl | rfl <;> exact .int _)
      refine ⟨gridT (gridOf s), .tup [.str "NotMutual", .tup [.int (j : Nat), .int (i : Nat)]], du h, rd, (if_t C8).trans (EV.set (EV.eif (p := true) (EV.test (EV.op (EV.call (EV.cons (EV.var rfl) EV.nil) ew) rfl rfl)) ((if_pos rfl).trans (EV.tup (EV.cons EV.const (EV.cons (EV.call (EV.cons (EV.var rfl) EV.nil) ew) EV.nil)) (by simp)))) rfl), fun h' τ a I' b' d2 ea => ?_, fun h' b' => du h', .inr fun h' => rfl⟩
      obtain ⟨R, e⟩ := made h'
      exact key (R := R) I' d2 ea (by rw [EV.xmkc e]; rfl)
end
end RQ
set_option Elab.async false
set_option linter.all false
set_option maxRecDepth 100000
set_option maxHeartbeats 4000000
namespace RQ
open PySem L2 TL KG K33 PG
section
variable {G : List (List Nat)} {W H n : Nat} {h : VH}
theorem roll_big (I : Iq n h) {k : Int} (hk : 0 < k) (hq0 : ∀ a : Int, Builtin.divisionGoesByPylong a k = false) : ∃ (r : Int) (o : VO), IsP o ∧ m_law_roll [.ref n, .int k] h = .ok (.int r) (h.set n o) := by
  obtain ⟨o, e, a, b, c, rfl, hb, hb2⟩ := I.pu
  have hn : n < h.length := (List.getElem?_eq_some_iff.mp e).1
  unfold pur at e
  have hs : ∀ x : VO, (h.set n x)[n]? = some x := fun x => List.getElem?_set_self hn
  clear hn
  by_cases ha : 0 < a
  · refine ⟨a % k, pur (a / k) b (c + 1), ⟨_, _, _, rfl, hb, hb2⟩, ?_⟩
    have hq : Builtin.divisionGoesByPylong a k = false := hq0 a
    simp [m_law_roll, s_law_roll, defM, startT, sSeq, sSet, sRet, sIf, sExpr, sNil, sAsg, sPar, sPar3, eVar, eK, eOp, eCall, mCall, eL, eH, aLim, aNil, aCons, aStar, eTup, eIf, bTest, TL.bAnd, TL.bOr, TL.bNot, bYes, eAnd, eOr, eNot, eNeg, eChain, eFld, getI, mgName, mgTup, mgsCons, mgsNil, mgSub, bSub, bMod, bFdv, bPow, bI, bI0, bAdd, bMul, bLt, bLe, bGt, bGe, bOrdG, bIs, bIsn, bIsG, TL.isNon, bIx, bSetL, fLen, fList, fTuple, fMax2, fMin2, fII, fAbs, fInt, fDivmod, TL.listOf, seqOf, tupOf, atI, ixN, List.getElem?_cons_zero, List.getElem?_cons_succ, List.set_cons_zero, List.set_cons_succ, List.map, List.length_cons, List.length_nil, List.replicate, List.append_nil, List.cons_append, List.nil_append, Option.bind_some, Option.bind, e, ha, hk, hq, hs, pur]
  · have hm : cMul b (b + 50021) = true := by
      unfold cMul
      rw [Bool.or_eq_true, Bool.and_eq_true]
      exact .inl ⟨decide_eq_true (by omega), decide_eq_true (by omega)⟩
    have hm2 : cMul 91229 (c + 1) = true := by
      unfold cMul
      rw [Bool.or_eq_true, Bool.and_eq_true]
      exact .inl ⟨by decide, by decide⟩
    refine ⟨(b * (b + 50021) + 91229 * (c + 1)) % 2147483543 / 128 % k, pur a ((b * (b + 50021) + 91229 * (c + 1)) % 2147483543) (c + 1), ⟨_, _, _, rfl, Int.emod_nonneg _ (by omega), Int.emod_lt_of_pos _ (by omega)⟩, ?_⟩
    simp [m_law_roll, s_law_roll, defM, startT, sSeq, sSet, sRet, sIf, sExpr, sNil, sAsg, sPar, sPar3, eVar, eK, eOp, eCall, mCall, eL, eH, aLim, aNil, aCons, aStar, eTup, eIf, bTest, TL.bAnd, TL.bOr, TL.bNot, bYes, eAnd, eOr, eNot, eNeg, eChain, eFld, getI, mgName, mgTup, mgsCons, mgsNil, mgSub, bSub, bMod, bFdv, bPow, bI, bI0, bAdd, bMul, bLt, bLe, bGt, bGe, bOrdG, bIs, bIsn, bIsG, TL.isNon, bIx, bSetL, fLen, fList, fTuple, fMax2, fMin2, fII, fAbs, fInt, fDivmod, TL.listOf, seqOf, tupOf, atI, ixN, List.getElem?_cons_zero, List.getElem?_cons_succ, List.set_cons_zero, List.set_cons_succ, List.map, List.length_cons, List.length_nil, List.replicate, List.append_nil, List.cons_append, List.nil_append, Option.bind_some, Option.bind, e, ha, hk, hs, hm, hm2, pur]
theorem big30 : ∀ a : Int, Builtin.divisionGoesByPylong a (10 ^ 30) = false := fun a => by
  have e : decide ((if ((10 : Int) ^ 30 == 0) = true then 0 else ((10 : Int) ^ 30).natAbs.log2 / 30 + 1) > 300) = false := by decide +kernel
  unfold Builtin.divisionGoesByPylong
  simp only [e, Bool.false_and]
theorem figure_pl (D : Dim G W H) (M : K33.Mut G W H) (x y : Int) (h : VH) : K34.m_Pattern_figure [pat G, .int x, .int y] h = .ok (.int (cell G W H x y : Nat)) h := by
  have f := fig_ok D (o := pat G) (u := .str (spell G)) (h := h) rfl x y
  have ii := fInt_dig h (cell G W H x y) (M.lt x y) (M.n5 x y)
  obtain ⟨τ', h', z, rfl, c, rfl⟩ := sFor_inv (mi := iSeqC (eTup (aCons (eVar 1) (aCons (eVar 2) aNil)))) (g := mgName 3) (body := sIf (TL.bNot (bTest (eCall K34.m_is_integer (aCons (eVar 3) aNil)))) sBad sNil) (τ := [some (pat G), some (.int x), some (.int y), none]) (h := h) (h1 := h) (rd := fun h => seqS h (.tup [.int x, .int y])) (ts := [.int x, .int y])
    (fun _ τ h' => h' = h ∧ ∃ c, τ = [some (pat G), some (.int x), some (.int y), c]) rfl ⟨rfl, none, rfl⟩ (fun _ _ _ _ => rfl) (fun i hi τ h' J => by
      obtain ⟨rfl, c, rfl⟩ := J
      have : ∃ v : Int, [T.int x, T.int y][i] = T.int v := by
        have hi : i < 2 := hi
        have : i = 0 ∨ i = 1 := by omega
        rcases this with rfl | rfl <;> exact ⟨_, rfl⟩
      obtain ⟨v, ev⟩ := this
      rw [ev]
      exact ⟨[some (pat G), some (.int x), some (.int y), some (.int v)], h', _, h', rfl, .inl ((if_f (h1 := h') rfl).trans rfl), rfl, _, rfl⟩)
  exact defM_rt rfl ((seq_nx z).trans (EV.ret (EV.call (EV.cons (EV.call (EV.cons (EV.var rfl) (EV.cons (EV.var rfl) (EV.cons (EV.var rfl) EV.nil))) f) EV.nil) ii)))
theorem eq_pats (G' G : List (List Nat)) (h : VH) : K34.m_Pattern___eq__ [pat G', pat G] h = .ok (.bl (spell G' == spell G)) h := by
  have e0 : eIsi (.o 2) (eVar 1) [some (pat G'), some (pat G)] h = .ok (.bl true) h := rfl
  have e1 : eFld 2 0 (eVar 0) [some (pat G'), some (pat G)] h = .ok (.str (spell G')) h := rfl
  have e2 : eProp 2 K34.m_Pattern_text (eVar 1) [some (pat G'), some (pat G)] h = .ok (.str (spell G)) h := rfl
  refine defM_rt rfl (EV.ret (EV.eand (p := true) e0 ?_))
  exact (if_pos rfl).trans (EV.op e1 e2 (eq_strs _ _ _))
theorem eqO_pats (G' G : List (List Nat)) (neg : Bool) (h : VH) : bEqO 2 neg K34.m_Pattern___eq__ (pat G') (pat G) h = .ok (.bl (neg != (spell G' == spell G))) h := by
  unfold bEqO
  have g : getI h (pat G') = some (2, [.str (spell G'), rowsT G']) := rfl
  have ty : tyOf h (pat G) = some (.o 2) := rfl
  simp only [g, ty, if_true, eq_pats]
theorem eqO_str (G : List (List Nat)) (s : Str) (h : VH) : bEqO 2 false K34.m_Pattern___eq__ (pat G) (.str s) h = .ok (.bl false) h := rfl
/-- a small number as a text -/
theorem small_txt {k : Nat} (hk : k ≤ 12) : ∃ z : Str, z.length ≤ 100 ∧ (∀ h, fStr [.int (k : Nat)] h = .ok (.str z) h) ∧ ∀ (f : ME) (τ : TS_) (h : VH), f τ h = .ok (.int (k : Nat)) h → eFmt f τ h = .ok (.str z) h := by
  have q : Nat.log2 ((k : Nat) : Int).natAbs < 1920 ∧ (Str.ofString (toString ((k : Nat) : Int))).length ≤ 100 := by
    have : ∀ k : Fin 13, Nat.log2 (((k : Nat) : Int)).natAbs < 1920 ∧ (Str.ofString (toString (((k : Nat) : Int)))).length ≤ 100 := by decide +kernel
    exact this ⟨k, by omega⟩
  refine ⟨Str.ofString (toString ((k : Nat) : Int)), q.2, fun h => ?_, fun f τ h e => ?_⟩
  · unfold fStr
    exact if_pos ⟨q.1, by omega⟩
  · unfold eFmt
    rw [e]
    exact if_pos ⟨q.1, by omega⟩
theorem empty_app (x : Str) : Str.empty ++ x = x := by
  show Str.append _ _ = _
  first | rfl | simp [Str.append, Str.empty]
theorem grid_w (D : Dim G W H) (h : VH) {τ : TS_} (v : eVar 2 τ h = .ok (gridT G) h) : eCall fLen (aCons (eOp TL.bIx (eVar 2) (eK (.int 0))) aNil) τ h = .ok (.int (W : Nat)) h := by
  have hr : G.getD 0 [] ∈ G := by
    rw [List.getD_eq_getElem?_getD, List.getElem?_eq_getElem (by rw [D.len]; exact D.h0)]
    exact List.getElem_mem _
  refine EV.call (EV.cons (EV.op v EV.const (row_at (i := 0) D D.h0 h)) EV.nil) ?_
  rw [EV.lenL, List.length_map, D.row _ hr]
theorem grid_h (D : Dim G W H) (h : VH) {τ : TS_} (v : eVar 2 τ h = .ok (gridT G) h) : eCall fLen (aCons (eVar 2) aNil) τ h = .ok (.int (H : Nat)) h := by
  refine EV.call (EV.cons v EV.nil) ?_
  rw [show gridT G = T.lst (G.map fun r => .lst (r.map fun d => .int (d : Nat))) from rfl, EV.lenL, List.length_map, D.len]
theorem pat_w (D : Dim G W H) (h : VH) {τ : TS_} {j : Nat} (v : eVar j τ h = .ok (pat G) h) : eCall fLen (aCons (eOp TL.bIx (eFld 2 1 (eVar j)) (eK (.int 0))) aNil) τ h = .ok (.int (W : Nat)) h := by
  have hG : 0 < G.length := by rw [D.len]; exact D.h0
  have hr : G[0] ∈ G := List.getElem_mem _
  refine EV.call (EV.cons (EV.op (EV.fld v rfl rfl) EV.const (t := rowsT G) (r := .ok (.str (rowS G[0])) h) ?_) EV.nil) ?_
  · refine EV.ixL (EV.at_nat (i := 0) ?_)
    rw [List.getElem?_map, List.getElem?_eq_getElem hG]
    rfl
  · show Res.ok (T.int ((rowS G[0]).length : Nat)) h = _
    rw [rowS_len, D.row _ hr]
theorem pat_h (D : Dim G W H) (h : VH) {τ : TS_} {j : Nat} (v : eVar j τ h = .ok (pat G) h) : eCall fLen (aCons (eFld 2 1 (eVar j)) aNil) τ h = .ok (.int (H : Nat)) h := by
  refine EV.call (EV.cons (EV.fld v rfl rfl) EV.nil) (show fLen [rowsT G] h = _ from ?_)
  rw [show rowsT G = T.lst (G.map fun r => .str (rowS r)) from rfl, EV.lenL, List.length_map, D.len]
theorem prop_w (D : Dim G W H) (h : VH) : K31.m_Pattern_width [pat G] h = .ok (.int (W : Nat)) h := defM_rt rfl (EV.ret (pat_w D h (EV.var rfl)))
theorem prop_h (D : Dim G W H) (h : VH) : K31.m_Pattern_height [pat G] h = .ok (.int (H : Nat)) h := defM_rt rfl (EV.ret (pat_h D h (EV.var rfl)))
theorem str_ok (G : List (List Nat)) (h : VH) : fOwn1 2 K31.m_Pattern___str__ [pat G] h = .ok (.str (spell G)) h := rfl
theorem repr_own (D : Dim G W H) {w v : Str} (wl : w.length ≤ 100) (vl : v.length ≤ 100) (fw : ∀ (f : ME) (τ : TS_) (h : VH), f τ h = .ok (.int (W : Nat)) h → eFmt f τ h = .ok (.str w) h) (fv : ∀ (f : ME) (τ : TS_) (h : VH), f τ h = .ok (.int (H : Nat)) h → eFmt f τ h = .ok (.str v) h) (h : VH) : fOwn1 2 K31.m_Pattern___repr__ [pat G] h = .ok (.str ("Pattern of " ++ w ++ " by " ++ v)) h := by
  have e1 : getI h (pat G) = some (2, [.str (spell G), rowsT G]) := rfl
  have e : K31.m_Pattern___repr__ [pat G] h = .ok (.str ("Pattern of " ++ w ++ " by " ++ v)) h := by
    refine defM_rt rfl (EV.ret ?_)
    obtain ⟨τ, hτ⟩ : ∃ τ, τ = startT 1 [pat G] := ⟨_, rfl⟩
    rw [← hτ]
    have v0 : eVar 0 τ h = .ok (pat G) h := by rw [hτ]; rfl
    have a1 : (("Pattern of " : String) : Str).length = 11 := by decide
    have a2 : ((" by " : String) : Str).length = 4 := by decide
    have a0 : Str.empty.length = 0 := by decide
    have F1 := fw _ τ h (pat_w D h v0)
    have F2 := fv _ τ h (pat_h D h v0)
    show runJ [eK (.str "Pattern of "), _, eK (.str " by "), _] Str.empty τ h = _
    unfold runJ
    rw [show eK (.str "Pattern of ") τ h = .ok (.str "Pattern of ") h from rfl]
    simp only
    rw [if_pos (by omega), empty_app]
    unfold runJ
    rw [F1]
    simp only
    rw [if_pos (by omega)]
    unfold runJ
    rw [show eK (.str " by ") τ h = .ok (.str " by ") h from rfl]
    simp only
    rw [if_pos (by rw [len_app]; omega)]
    unfold runJ
    rw [F2]
    simp only
    rw [if_pos (by rw [len_app, len_app]; omega)]
    rfl
  unfold fOwn1
  simp only [e1, e, if_true]
theorem spell_200 (D : Dim G W H) : (spell G).length ≤ 200 := by
  unfold spell
  refine Nat.le_trans (StrLaws.join_length_le _ _) ?_
  have e := rows_sum D
  have e1 : ("/" : Str).length = 1 := by decide
  rw [e1, List.length_map, List.length_reverse, D.len]
  have := D.h1
  omega
end
end RQ
set_option Elab.async false
set_option linter.all false
set_option maxRecDepth 100000
set_option maxHeartbeats 4000000
namespace RQ
open PySem L2 TL KG K33 PG
section
variable {G : List (List Nat)} {W H n : Nat} {h : VH}
theorem spell_128 (D : Dim G W H) (A : Digs G) : ∀ c ∈ (spell G).cps.toList, c < 128 := by
  have key : ∀ l : List Str, (∀ x ∈ l, ∀ c ∈ x.cps.toList, c < 128) → ∀ c ∈ (Str.join "/" l).cps.toList, c < 128 := by
    intro l
    induction l with
    | nil => intro _ c hc; have e : (Str.join "/" []).cps.toList = [] := by decide
             rw [e] at hc; cases hc
    | cons x l ih =>
      intro a c hc
      cases l with
      | nil => exact a x (.head _) c hc
      | cons y l =>
        have e : (Str.join "/" (x :: y :: l)).cps.toList = x.cps.toList ++ [47] ++ (Str.join "/" (y :: l)).cps.toList := by
          have e1 : Str.join "/" (x :: y :: l) = x ++ "/" ++ Str.join "/" (y :: l) := rfl
          have e2 : (("/" : String) : Str).cps.toList = [47] := by decide +kernel
          have ap : ∀ p q : Str, (p ++ q).cps.toList = p.cps.toList ++ q.cps.toList := fun p q => by
            show (p.cps ++ q.cps).toList = _
            simp
          rw [e1, ap, ap, e2]
        rw [e, List.mem_append, List.mem_append] at hc
        rcases hc with (hc | hc) | hc
        · exact a x (.head _) c hc
        · rw [List.mem_singleton.mp hc]; omega
        · exact ih (fun z hz => a z (.tail _ hz)) c hc
  intro c hc
  refine key (G.reverse.map rowS) (fun x hx c hc => ?_) c hc
  obtain ⟨r, hr, rfl⟩ := List.mem_map.mp hx
  have hc : c ∈ r.map (48 + ·) := hc
  obtain ⟨d, hd, rfl⟩ := List.mem_map.mp hc
  have := A.lt r (by simpa using hr) d hd
  omega
abbrev sevT (G : List (List Nat)) (W H : Nat) : List T := [.str (spell G), .str (spell G), .int (W : Nat), .int (H : Nat), .bl true, .bl false, .bl false]
theorem repr_sev (D : Dim G W H) (A : Digs G) : ∃ z : Str, (∀ h : VH, fRepr [.lst (sevT G W H)] h = .ok (.str z) h) ∧ ∀ (h : VH) (m : Nat), h[m]? = some (.lst (sevT G W H)) → fRepr [.ref m] h = .ok (.str z) h := by
  obtain ⟨d, hd⟩ : ∃ d : PyData, d = .list [.str (spell G), .str (spell G), .int (W : Nat), .int (H : Nat), .bool true, .bool false, .bool false] := ⟨_, rfl⟩
  have ds : ∀ h : VH, (sevT G W H).mapM (T.dat h 9) = some [.str (spell G), .str (spell G), .int (W : Nat), .int (H : Nat), .bool true, .bool false, .bool false] := fun h => by
    simp only [List.mapM_cons, List.mapM_nil, dat_str, dat_bl, dat_int, Option.pure_def, Option.bind_eq_bind, Option.bind_some]
  have q : ∀ {k : Nat}, k ≤ 12 → k.log2 ≤ 10 := fun {k} hk => by
    have : ∀ k : Fin 13, (k : Nat).log2 ≤ 10 := by decide +kernel
    exact this ⟨k, by omega⟩
  have qw := q D.w1
  have qh := q D.h1
  have rl : (reprText (spell G)).length ≤ 10 * (spell G).length + 2 := StrLaws.reprText_len (spell G) fun c hc => by
    have := spell_128 D A c hc
    have : (128 : Nat) < 16 ^ 8 := by decide
    omega
  have sl := spell_200 D
  have sh : d.showable = true := by
    rw [hd]
    simp only [PyData.showable, PyData.showableAll, Int.natAbs_natCast, Bool.and_true, Bool.true_and]
    rw [decide_eq_true (show W.log2 < 1920 by omega), decide_eq_true (show H.log2 < 1920 by omega)]
    rfl
  have hn : d.hasDict = false := by rw [hd]; rfl
  have wd : wide d ≤ 1000000 := by
    rw [hd]
    simp only [wide, wides, Int.natAbs_natCast]
    omega
  refine ⟨d.shown, fun h => repr_ok ?_ sh hn wd, fun h m e => repr_ok ?_ sh hn wd⟩
  · rw [dat_lst, ds h, hd]; rfl
  · show (match h[m]? with
      | some (.lst ts) => (ts.mapM (T.dat h 9)).map PyData.list
      | _ => none) = _
    rw [e]
    simp only [ds h, hd]
    rfl
theorem repr_two {c : Nat} (hc : c < 10) (h : VH) : ∃ z : Str, fRepr [.lst [.int (c : Nat), .int (c : Nat)]] h = .ok (.str z) h := by
  have q : c.log2 ≤ 10 := by
    have : ∀ k : Fin 10, (k : Nat).log2 ≤ 10 := by decide +kernel
    exact this ⟨c, hc⟩
  refine ⟨_, repr_ok (d := .list [.int (c : Nat), .int (c : Nat)]) ?_ ?_ rfl ?_⟩
  · rw [dat_lst]
    simp only [List.mapM_cons, List.mapM_nil, dat_int, Option.pure_def, Option.bind_eq_bind, Option.bind_some]
    rfl
  · simp only [PyData.showable, PyData.showableAll, Int.natAbs_natCast, Bool.and_true]
    rw [decide_eq_true (show c.log2 < 1920 by omega)]
    rfl
  · simp only [wide, wides, Int.natAbs_natCast]
    omega
abbrev no : MS := (sRet (eK (.bl false)))
abbrev i1 : MS := (sPar 8 9 (aCons (eOp TL.bSub (eCall m_law_roll (aCons (eVar 0) (aCons (eK (.int 40)) aNil))) (eK (.int 20))) (aCons (eOp TL.bSub (eCall m_law_roll (aCons (eVar 0) (aCons (eOp bPow (eK (.int 10)) (eK (.int 30))) aNil))) (eOp TL.bMul (eK (.int 5)) (eOp bPow (eK (.int 10)) (eK (.int 29))))) aNil)))
abbrev i2 : MS := (sSet 10 (eCall m_law_at (aCons (eVar 2) (aCons (eVar 8) (aCons (eVar 9) aNil)))))
abbrev i3C : MB := (bTest (eOp bNe (eCall fRepr (aCons (eL (aLim (aCons (eMeth 2 K34.m_Pattern_figure (eVar 4) (aCons (eVar 8) (aCons (eVar 9) aNil))) (aCons (eMeth 2 K34.m_Pattern_figure (eVar 4) (aPerm [1, 0] (aCons (eVar 9) (aCons (eVar 8) aNil)))) aNil)))) aNil)) (eCall fRepr (aCons (eL (aLim (aCons (eVar 10) (aCons (eVar 10) aNil)))) aNil))))
abbrev i4 : MS := (sSet 11 (eCall K31.m_law_bent (aCons (eVar 0) (aCons (eVar 3) aNil))))
abbrev i5 : MS := (sSet 12 (eCall K31.m_law_read (aCons (eVar 11) aNil)))
abbrev i6 : MS := (sSet 10 (eTup (aCons (eK (.str "InvalidText")) (aCons (eVar 11) aNil))))
abbrev i8 : MS := (sSet 6 (eH (aLim (aCons (mkC (aCons (eVar 11) aNil)) aNil))))
abbrev i9 : MS := (sExpr (eMt "list" mAppend (eVar 6) (aCons (mkC (aPerm [0] (aCons (eVar 11) aNil))) aNil)))
abbrev mkP : MA → ME := eCall (cutM (makeM 2 m_Pattern___init__))
abbrev i10S : MB := (TL.bNot (bTest (eCall (K31.m_law_same 12) (aCons (eVar 6) (aCons (eL (aLim (aCons (eVar 10) (aCons (eVar 10) aNil)))) aNil)))))
abbrev i10E : MB := (TL.bAnd (bTest (eOp bEqE (eVar 10) (eTup aNil))) (bTest (eOp bNe (eOp (bEqO 2 false K34.m_Pattern___eq__) (mkP (aCons (eVar 11) aNil)) (eVar 4)) (eOp TL.bEq (eVar 11) (eVar 3)))))
abbrev inner : MS := (sSeq i1 (sSeq i2 (sSeq (sIf i3C no sNil) (sSeq i4 (sSeq i5 (sSeq i6 (sSeq dIf (sSeq i8 (sSeq i9 (sIf (TL.bOr i10S i10E) no sNil))))))))))
abbrev o4 : MS := (sPar 4 5 (aCons (mkP (aCons (eVar 3) aNil)) (aCons (mkP (aPerm [0] (aCons (eVar 3) aNil))) aNil)))
abbrev o5 : MS := (sSet 6 (eH (aLim (aCons (eProp 2 K34.m_Pattern_text (eVar 4)) (aCons (eCall (fOwn1 2 K31.m_Pattern___str__) (aCons (eVar 4) aNil)) (aCons (eProp 2 K31.m_Pattern_width (eVar 4)) (aCons (eProp 2 K31.m_Pattern_height (eVar 4)) (aCons (eOp (bEqO 2 false K34.m_Pattern___eq__) (eVar 4) (eVar 5)) (aCons (eOp (bEqO 2 true K34.m_Pattern___eq__) (eVar 4) (eVar 5)) (aCons (eOp (bEqO 2 false K34.m_Pattern___eq__) (eVar 4) (eVar 3)) aNil))))))))))
abbrev lenW : ME := (eCall fLen (aCons (eOp TL.bIx (eVar 2) (eK (.int 0))) aNil))
abbrev lenH : ME := (eCall fLen (aCons (eVar 2) aNil))
abbrev o6C : MB := (bTest (eOp bNe (eCall fRepr (aCons (eVar 6) aNil)) (eCall fRepr (aCons (eL (aLim (aCons (eVar 3) (aCons (eVar 3) (aCons lenW (aCons lenH (aCons (eK (.bl true)) (aCons (eK (.bl false)) (aCons (eK (.bl false)) aNil))))))))) aNil))))
abbrev o7C : MB := (bTest (eOp bNe (eCall (fOwn1 2 K31.m_Pattern___repr__) (aCons (eVar 4) aNil)) (eOp TL.bAdd (eOp TL.bAdd (eOp TL.bAdd (eK (.str "Pattern of ")) (eCall fStr (aCons lenW aNil))) (eK (.str " by "))) (eCall fStr (aCons lenH aNil)))))
abbrev outer : MS := (sSeq (sSet 2 (eCall m_law_grid (aCons (eVar 0) (aCons (eK (.int 5)) aNil)))) (sSeq (sSet 3 (eCall m_law_spelled (aCons (eVar 2) aNil))) (sSeq o4 (sSeq o5 (sSeq (sIf o6C no sNil) (sSeq (sIf o7C no sNil) (sFor (iRange1 (aCons (eK (.int 6)) aNil)) (mgName 7) inner)))))))
theorem ne_refl (x : Str) (h : VH) : TL.bNe (.str x) (.str x) h = .ok (.bl false) h := by
  rw [ne_strs]
  simp
theorem mul5 (h : VH) : TL.bMul (.int 5) (.int (10 ^ 29)) h = .ok (.int (5 * 10 ^ 29)) h := by
  unfold TL.bMul
  exact if_pos (by decide +kernel)
theorem inner_ok (I : Iq n h) (D : Dim G W H) (M : K33.Mut G W H) (a1 a5 a6 a7 a8 a9 a10 a11 a12 : Option T) : ∃ (h' : VH) (c6 c8 c9 c10 c11 c12 : Option T), inner (zF n a1 (some (gridT G)) (some (.str (spell G))) (some (pat G)) a5 a6 a7 a8 a9 a10 a11 a12) h = .nx (zF n a1 (some (gridT G)) (some (.str (spell G))) (some (pat G)) a5 c6 a7 c8 c9 c10 c11 c12) h' ∧ Iq n h' := by
  obtain ⟨x, o1, io1, e1⟩ := roll_big (k := 40) I (by omega) (fun a => PyProof.noPylong_small (by decide))
  have I1 := I.set io1
  obtain ⟨k1, hk1⟩ : ∃ k, k = h.set n o1 := ⟨_, rfl⟩
  rw [← hk1] at e1 I1
  obtain ⟨y, o2, io2, e2⟩ := roll_big (k := 10 ^ 30) I1 (by decide) big30
  have I2 := I1.set io2
  obtain ⟨k2, hk2⟩ : ∃ k, k = k1.set n o2 := ⟨_, rfl⟩
  rw [← hk2] at e2 I2
  have S1 : i1 (zF n a1 (some (gridT G)) (some (.str (spell G))) (some (pat G)) a5 a6 a7 a8 a9 a10 a11 a12) h = .nx (zF n a1 (some (gridT G)) (some (.str (spell G))) (some (pat G)) a5 a6 a7 (some (.int (x - 20))) (some (.int (y - 5 * 10 ^ 29))) a10 a11 a12) k2 :=
    EV.par (EV.cons (EV.op (EV.call (EV.cons (EV.var rfl) (EV.cons EV.const EV.nil)) e1) EV.const (hSub _ _ _)) (EV.cons (EV.op (EV.call (EV.cons (EV.var rfl) (EV.cons (t := .int (10 ^ 30)) (h1 := k1) rfl EV.nil)) e2) (u := .int (5 * 10 ^ 29)) (h2 := k2) (EV.op EV.const (u := .int (10 ^ 29)) (h2 := k2) rfl (mul5 k2)) (hSub _ _ _)) EV.nil)) rfl
  obtain ⟨p, hp⟩ : ∃ p, p = x - 20 := ⟨_, rfl⟩
  obtain ⟨q, hq⟩ : ∃ q, q = y - 5 * 10 ^ 29 := ⟨_, rfl⟩
  rw [← hp, ← hq] at S1
  have S2 : i2 (zF n a1 (some (gridT G)) (some (.str (spell G))) (some (pat G)) a5 a6 a7 (some (.int p)) (some (.int q)) a10 a11 a12) k2 = .nx (zF n a1 (some (gridT G)) (some (.str (spell G))) (some (pat G)) a5 a6 a7 (some (.int p)) (some (.int q)) (some (.int (cell G W H p q : Nat))) a11 a12) k2 :=
    EV.set (EV.call (EV.cons (EV.var rfl) (EV.cons (EV.var rfl) (EV.cons (EV.var rfl) EV.nil))) (at_ok D p q k2)) rfl
  obtain ⟨z, rz⟩ := repr_two (M.lt p q) k2
  have fg := figure_pl D M p q k2
  have C3 : i3C (zF n a1 (some (gridT G)) (some (.str (spell G))) (some (pat G)) a5 a6 a7 (some (.int p)) (some (.int q)) (some (.int (cell G W H p q : Nat))) a11 a12) k2 = .ok false k2 :=
    EV.test (EV.op (EV.call (EV.cons (EV.lst (EV.lim (EV.cons (EV.meth (EV.var rfl) rfl (EV.cons (EV.var rfl) (EV.cons (EV.var rfl) EV.nil)) fg) (EV.cons (EV.meth (EV.var rfl) rfl (EV.perm (EV.cons (EV.var rfl) (EV.cons (EV.var rfl) EV.nil)) rfl) fg) EV.nil)) (by simp))) EV.nil) rz) (EV.call (EV.cons (EV.lst (EV.lim (EV.cons (EV.var rfl) (EV.cons (EV.var rfl) EV.nil)) (by simp))) EV.nil) rz) (ne_refl _ _))
  obtain ⟨t, k3, e4, b, I3, _⟩ := bent_ok I2 (s := spell G) (by have := spell_200 D; omega)
  have S4 : i4 (zF n a1 (some (gridT G)) (some (.str (spell G))) (some (pat G)) a5 a6 a7 (some (.int p)) (some (.int q)) (some (.int (cell G W H p q : Nat))) a11 a12) k2 = .nx (zF n a1 (some (gridT G)) (some (.str (spell G))) (some (pat G)) a5 a6 a7 (some (.int p)) (some (.int q)) (some (.int (cell G W H p q : Nat))) (some t) a12) k3 :=
    EV.set (EV.call (EV.cons (EV.var rfl) (EV.cons (EV.var rfl) EV.nil)) e4) rfl
  obtain ⟨rd, d, du, er, ed, cau, duf, fin⟩ := case_val I3 b a1 (some (gridT G)) (some (.str (spell G))) (some (pat G)) a5 a6 a7 (some (.int p)) (some (.int q)) none none
  have S5 : i5 (zF n a1 (some (gridT G)) (some (.str (spell G))) (some (pat G)) a5 a6 a7 (some (.int p)) (some (.int q)) (some (.int (cell G W H p q : Nat))) (some t) a12) k3 = .nx (zF n a1 (some (gridT G)) (some (.str (spell G))) (some (pat G)) a5 a6 a7 (some (.int p)) (some (.int q)) (some (.int (cell G W H p q : Nat))) (some t) (some rd)) k3 :=
    EV.set (EV.call (EV.cons (EV.var rfl) EV.nil) er) rfl
  have S6 : i6 (zF n a1 (some (gridT G)) (some (.str (spell G))) (some (pat G)) a5 a6 a7 (some (.int p)) (some (.int q)) (some (.int (cell G W H p q : Nat))) (some t) (some rd)) k3 = .nx (zF n a1 (some (gridT G)) (some (.str (spell G))) (some (pat G)) a5 a6 a7 (some (.int p)) (some (.int q)) (some (.tup [.str "InvalidText", t])) (some t) (some rd)) k3 :=
    EV.set (EV.tup (EV.cons EV.const (EV.cons (EV.var rfl) EV.nil)) (by simp)) rfl
  have c8 := cau k3 (zF n a1 (some (gridT G)) (some (.str (spell G))) (some (pat G)) a5 a6 a7 (some (.int p)) (some (.int q)) (some d) (some t) (some rd)) (aCons (eVar 11) aNil) I3 b du (EV.cons (EV.var rfl) EV.nil)
  obtain ⟨s, hs⟩ : ∃ s, s = k3.length := ⟨_, rfl⟩
  obtain ⟨k4, hk4⟩ : ∃ k, k = k3 ++ [VO.lst [d]] := ⟨_, rfl⟩
  have S8 : i8 (zF n a1 (some (gridT G)) (some (.str (spell G))) (some (pat G)) a5 a6 a7 (some (.int p)) (some (.int q)) (some d) (some t) (some rd)) k3 = .nx (zF n a1 (some (gridT G)) (some (.str (spell G))) (some (pat G)) a5 (some (.ref s)) a7 (some (.int p)) (some (.int q)) (some d) (some t) (some rd)) k4 := by
    rw [hs, hk4]
    exact EV.set (EV.hp (EV.lim (EV.cons c8 EV.nil) (by simp))) rfl
  have I4 : Iq n k4 := hk4 ▸ I3.app fun m hm => by show lowRs m [d] = true; simp [lowRs, du.low (Nat.le_of_lt hm)]
  have b4 : Bv k4 t := hk4 ▸ b.mono (Sd.app _)
  have du4 := duf k4 b4
  have x4 : k4[s]? = some (.lst [d]) := by rw [hk4, hs, List.getElem?_append_right (Nat.le_refl _), Nat.sub_self]; rfl
  have sn : s ≠ n := by have := I3.lt; omega
  have l4 : k4.length = k3.length + 1 := by rw [hk4]; simp
  have c9 := cau k4 (zF n a1 (some (gridT G)) (some (.str (spell G))) (some (pat G)) a5 (some (.ref s)) a7 (some (.int p)) (some (.int q)) (some d) (some t) (some rd)) (aPerm [0] (aCons (eVar 11) aNil)) I4 b4 du4 (EV.perm (EV.cons (EV.var rfl) EV.nil) rfl)
  obtain ⟨k5, hk5⟩ : ∃ k, k = k4.set s (VO.lst [d, d]) := ⟨_, rfl⟩
  have S9 : i9 (zF n a1 (some (gridT G)) (some (.str (spell G))) (some (pat G)) a5 (some (.ref s)) a7 (some (.int p)) (some (.int q)) (some d) (some t) (some rd)) k4 = .nx (zF n a1 (some (gridT G)) (some (.str (spell G))) (some (pat G)) a5 (some (.ref s)) a7 (some (.int p)) (some (.int q)) (some d) (some t) (some rd)) k5 := by
    refine EV.ex (EV.mt (EV.var rfl) (by simp [tyT, x4]) (EV.cons c9 EV.nil) (r := .ok .non k5) ?_)
    simp only [mAppend, x4]
    rw [if_pos (by simp), hk5]
    rfl
  have I5 : Iq n k5 := hk5 ▸ I4.put sn fun m hm => by show lowRs m [d, d] = true; simp [lowRs, du4.low hm]
  have sd5 : Sd k4 k5 := hk5 ▸ Sd.set x4 (by simp)
  have du5 := duf k5 (b4.mono sd5)
  have x5 : k5[s]? = some (.lst [d, d]) := by rw [hk5, List.getElem?_set_self (by omega)]
  have C10 : TL.bOr i10S i10E (zF n a1 (some (gridT G)) (some (.str (spell G))) (some (pat G)) a5 (some (.ref s)) a7 (some (.int p)) (some (.int q)) (some d) (some t) (some rd)) k5 = .ok false k5 := by
    refine EV.bor (p := false) (EV.not (p := true) (EV.test (EV.call (EV.cons (EV.var rfl) (EV.cons (EV.lst (EV.lim (EV.cons (EV.var rfl) (EV.cons (EV.var rfl) EV.nil)) (by simp))) EV.nil)) (seen_ok x5 du5 (by simp) (by simp))))) ((if_neg Bool.false_ne_true).trans ?_)
    rcases fin with ⟨ee, G', W', H', D', M', et⟩ | ee
    · subst et
      have hd : d = .tup [] := by
        cases du with
        | no => rfl
        | so nm v => cases ee
      subst hd
      have mk := make_ok D' M' I5.low0
      refine EV.band (p := true) (EV.test (EV.op (EV.var rfl) rfl rfl)) ((if_pos rfl).trans (EV.test (EV.op (EV.op (EV.call (EV.cons (EV.var rfl) EV.nil) mk) (EV.var rfl) (eqO_pats G' G false k5)) (EV.op (EV.var rfl) (EV.var rfl) (eq_strs _ _ _)) ?_)))
      cases spell G' == spell G <;> rfl
    · exact EV.band (p := false) (EV.test (EV.op (EV.var rfl) rfl (ee k5))) (if_neg Bool.false_ne_true)
  refine ⟨k5, some (.ref s), some (.int p), some (.int q), some d, some t, some rd, ?_, I5⟩
  exact (seq_nx S1).trans ((seq_nx S2).trans ((seq_nx ((if_f C3).trans rfl)).trans ((seq_nx S4).trans ((seq_nx S5).trans ((seq_nx S6).trans ((seq_nx ed).trans ((seq_nx S8).trans ((seq_nx S9).trans ((if_f C10).trans rfl)))))))))
theorem outer_ok (I : Iq n h) (a1 a2 a3 a4 a5 a6 a7 a8 a9 a10 a11 a12 : Option T) : ∃ (h' : VH) (c2 c3 c4 c5 c6 c7 c8 c9 c10 c11 c12 : Option T), outer (zF n a1 a2 a3 a4 a5 a6 a7 a8 a9 a10 a11 a12) h = .nx (zF n a1 c2 c3 c4 c5 c6 c7 c8 c9 c10 c11 c12) h' ∧ Iq n h' := by
  obtain ⟨W, H, G, h1, r1, I1, l1, D, M, _, _⟩ := grid_ok (z0 := 5) I (by omega) (by omega)
  have A := mut_digs D M
  have sp := spelled_ok D A h1
  have mk := make_ok D M I1.low0
  have S1 : sSet 2 (eCall m_law_grid (aCons (eVar 0) (aCons (eK (.int 5)) aNil))) (zF n a1 a2 a3 a4 a5 a6 a7 a8 a9 a10 a11 a12) h = .nx (zF n a1 (some (gridT G)) a3 a4 a5 a6 a7 a8 a9 a10 a11 a12) h1 := EV.set (EV.call (EV.cons (EV.var rfl) (EV.cons EV.const EV.nil)) r1) rfl
  have S2 : sSet 3 (eCall m_law_spelled (aCons (eVar 2) aNil)) (zF n a1 (some (gridT G)) a3 a4 a5 a6 a7 a8 a9 a10 a11 a12) h1 = .nx (zF n a1 (some (gridT G)) (some (.str (spell G))) a4 a5 a6 a7 a8 a9 a10 a11 a12) h1 := EV.set (EV.call (EV.cons (EV.var rfl) EV.nil) sp) rfl
  have S3 : o4 (zF n a1 (some (gridT G)) (some (.str (spell G))) a4 a5 a6 a7 a8 a9 a10 a11 a12) h1 = .nx (zF n a1 (some (gridT G)) (some (.str (spell G))) (some (pat G)) (some (pat G)) a6 a7 a8 a9 a10 a11 a12) h1 :=
    EV.par (EV.cons (EV.call (EV.cons (EV.var rfl) EV.nil) mk) (EV.cons (EV.call (EV.perm (EV.cons (EV.var rfl) EV.nil) rfl) mk) EV.nil)) rfl
  obtain ⟨s, hs⟩ : ∃ s, s = h1.length := ⟨_, rfl⟩
  obtain ⟨h2, hh2⟩ : ∃ k, k = h1 ++ [VO.lst (sevT G W H)] := ⟨_, rfl⟩
  have tt : (spell G == spell G) = true := by simp
  have S4 : o5 (zF n a1 (some (gridT G)) (some (.str (spell G))) (some (pat G)) (some (pat G)) a6 a7 a8 a9 a10 a11 a12) h1 = .nx (zF n a1 (some (gridT G)) (some (.str (spell G))) (some (pat G)) (some (pat G)) (some (.ref s)) a7 a8 a9 a10 a11 a12) h2 := by
    rw [hs, hh2]
    refine EV.set (EV.hp (EV.lim (EV.cons (EV.prop (EV.var rfl) rfl rfl) (EV.cons (EV.call (EV.cons (EV.var rfl) EV.nil) (str_ok G h1)) (EV.cons (EV.prop (EV.var rfl) rfl (prop_w D h1)) (EV.cons (EV.prop (EV.var rfl) rfl (prop_h D h1)) (EV.cons (EV.op (EV.var rfl) (EV.var rfl) ((eqO_pats G G false h1).trans (by rw [tt]; rfl))) (EV.cons (EV.op (EV.var rfl) (EV.var rfl) ((eqO_pats G G true h1).trans (by rw [tt]; rfl))) (EV.cons (EV.op (EV.var rfl) (EV.var rfl) (eqO_str G (spell G) h1)) EV.nil))))))) (by simp))) rfl
  have I2 : Iq n h2 := hh2 ▸ I1.app fun m hm => rfl
  have x2 : h2[s]? = some (.lst (sevT G W H)) := by rw [hh2, hs, List.getElem?_append_right (Nat.le_refl _), Nat.sub_self]; rfl
  obtain ⟨z, z1, z2⟩ := repr_sev D A
  have C5 : o6C (zF n a1 (some (gridT G)) (some (.str (spell G))) (some (pat G)) (some (pat G)) (some (.ref s)) a7 a8 a9 a10 a11 a12) h2 = .ok false h2 :=
    EV.test (EV.op (EV.call (EV.cons (EV.var rfl) EV.nil) (z2 h2 s x2)) (EV.call (EV.cons (EV.lst (EV.lim (EV.cons (EV.var rfl) (EV.cons (EV.var rfl) (EV.cons (grid_w D h2 (EV.var rfl)) (EV.cons (grid_h D h2 (EV.var rfl)) (EV.cons EV.const (EV.cons EV.const (EV.cons EV.const EV.nil))))))) (by simp))) EV.nil) (z1 h2)) (ne_refl _ _))
  obtain ⟨w, wl, ws, wf⟩ := small_txt D.w1
  obtain ⟨v, vl, vs, vf⟩ := small_txt D.h1
  have p1 : (("Pattern of " : String) : Str).length = 11 := by decide
  have p2 : ((" by " : String) : Str).length = 4 := by decide
  have C6 : o7C (zF n a1 (some (gridT G)) (some (.str (spell G))) (some (pat G)) (some (pat G)) (some (.ref s)) a7 a8 a9 a10 a11 a12) h2 = .ok false h2 :=
    EV.test (EV.op (EV.call (EV.cons (EV.var rfl) EV.nil) (repr_own D wl vl wf vf h2)) (EV.op (EV.op (EV.op EV.const (EV.call (EV.cons (grid_w D h2 (EV.var rfl)) EV.nil) (ws h2)) (addS (by omega))) EV.const (addS (by rw [len_app]; omega))) (EV.call (EV.cons (grid_h D h2 (EV.var rfl)) EV.nil) (vs h2)) (addS (by rw [len_app, len_app]; omega))) (ne_refl _ _))
  obtain ⟨τ', h3, q, J, c6, c7, c8, c9, c10, c11, c12, rfl⟩ := sFor_inv (mi := iRange1 (aCons (eK (.int 6)) aNil)) (g := mgName 7) (body := inner) (τ := zF n a1 (some (gridT G)) (some (.str (spell G))) (some (pat G)) (some (pat G)) (some (.ref s)) a7 a8 a9 a10 a11 a12) (h := h2) (h1 := h2) (rd := fun _ => some (rangeT 0 6)) (ts := rangeT 0 6)
    (fun _ τ h' => Iq n h' ∧ ∃ c6 c7 c8 c9 c10 c11 c12, τ = zF n a1 (some (gridT G)) (some (.str (spell G))) (some (pat G)) (some (pat G)) c6 c7 c8 c9 c10 c11 c12) (rng_ok (K := 6) rfl (by omega)) ⟨I2, _, _, _, _, _, _, _, rfl⟩ (fun _ _ _ _ => rfl) (fun k hk τ h' J => by
      obtain ⟨J, c6, c7, c8, c9, c10, c11, c12, rfl⟩ := J
      obtain ⟨h4, d6, d8, d9, d10, d11, d12, z, J2⟩ := inner_ok J D M a1 (some (pat G)) c6 (some (rangeT 0 6)[k]) c8 c9 c10 c11 c12
      exact ⟨_, h', _, h4, rfl, .inl z, J2, _, _, _, _, _, _, _, rfl⟩)
  refine ⟨h3, some (gridT G), some (.str (spell G)), some (pat G), some (pat G), c6, c7, c8, c9, c10, c11, c12, ?_, J⟩
  exact (seq_nx S1).trans ((seq_nx S2).trans ((seq_nx S3).trans ((seq_nx S4).trans ((seq_nx ((if_f C5).trans rfl)).trans ((seq_nx ((if_f C6).trans rfl)).trans q)))))
theorem case_ok (I : Iq n h) : ∃ h', K31.m_law_case_right [.ref n] h = .ok (.bl true) h' ∧ ∀ o ∈ h', ∀ m, h'.length ≤ m → VO.lowR m o = true := by
  obtain ⟨τ', h', q1, J, c1, c2, c3, c4, c5, c6, c7, c8, c9, c10, c11, c12, rfl⟩ := sFor_inv (mi := iRange1 (aCons (eK (.int 8)) aNil)) (g := mgName 1) (body := outer) (τ := zF n none none none none none none none none none none none none) (h := h) (h1 := h) (rd := fun _ => some (rangeT 0 8)) (ts := rangeT 0 8)
    (fun _ τ h' => Iq n h' ∧ ∃ c1 c2 c3 c4 c5 c6 c7 c8 c9 c10 c11 c12, τ = zF n c1 c2 c3 c4 c5 c6 c7 c8 c9 c10 c11 c12) (rng_ok (K := 8) rfl (by omega)) ⟨I, _, _, _, _, _, _, _, _, _, _, _, _, rfl⟩ (fun _ _ _ _ => rfl) (fun k hk τ h' J => by
      obtain ⟨J, c1, c2, c3, c4, c5, c6, c7, c8, c9, c10, c11, c12, rfl⟩ := J
      obtain ⟨h2, d2, d3, d4, d5, d6, d7, d8, d9, d10, d11, d12, z, J2⟩ := outer_ok J (some (rangeT 0 8)[k]) c2 c3 c4 c5 c6 c7 c8 c9 c10 c11 c12
      exact ⟨_, h', _, h2, rfl, .inl z, J2, _, _, _, _, _, _, _, _, _, _, _, _, rfl⟩)
  exact ⟨h', defM_rt rfl ((seq_nx q1).trans (ret_ok rfl)), J.fl⟩
end
theorem _root_.K31.pure_law (ns : List Int) (hl : ns.length ≤ 63) : ∃ h', K31.m_law [.arg (ns.map T.int)] [] = .ok (.bl true) h' :=
  law_ok (mc := K31.m_law_case_right) (L := 5) (by omega) case_ok ns hl
end RQ
set_option Elab.async false
set_option linter.all false
set_option maxRecDepth 100000
set_option maxHeartbeats 4000000
namespace K31
open K33 hiding m_law_case_right s_law_case_right
open K34
open PySem PySem.Spec L2 TL
theorem nm_Pattern_figure {w : World} {K : PySem.W.Frag} : ("figure" : Str) ∉ (wd w K).fn 2 := (show ("figure" : Str) ∉ (["written", "rows"] : List Str) by decide)
structure GsA (w : World) (K : PySem.W.Frag) (mg : Str → Option Value) : Prop where
  b_abs : mg "abs" = none
  b_all : mg "all" = none
  b_bool : mg "bool" = none
  b_divmod : mg "divmod" = none
  b_enumerate : mg "enumerate" = none
  b_int : mg "int" = none
  b_isinstance : mg "isinstance" = none
  b_len : mg "len" = none
  b_list : mg "list" = none
  b_max : mg "max" = none
  b_min : mg "min" = none
  b_range : mg "range" = none
  b_repr : mg "repr" = none
  b_str : mg "str" = none
  b_tuple : mg "tuple" = none
  f_figure_at : mg "figure_at" = some (.ref (He.ga K "figure_at"))
  F_figure_at : FunD K "figure_at" "figure_at" (defArgs (top 13)) (defBody (top 13)) (defScope (top 13)) [] [] (He.ga K "figure_at") (fdOf K (He.ga K "figure_at"))
  f_first_wrong : mg "first_wrong" = some (.ref (He.ga K "first_wrong"))
  F_first_wrong : FunD K "first_wrong" "first_wrong" (defArgs (top 14)) (defBody (top 14)) (defScope (top 14)) [] [] (He.ga K "first_wrong") (fdOf K (He.ga K "first_wrong"))
  f_rows_in : mg "rows_in" = some (.ref (He.ga K "rows_in"))
  F_rows_in : FunD K "rows_in" "rows_in" (defArgs (top 11)) (defBody (top 11)) (defScope (top 11)) [] [] (He.ga K "rows_in") (fdOf K (He.ga K "rows_in"))
  F_Pattern___init__ : FunD K "__init__" "Pattern.__init__" (defArgs (mth 12 0)) (defBody (mth 12 0)) (defScope (mth 12 0)) [] [] (He.ma K (He.ga K "Pattern") "__init__") (fdOf K (He.ma K (He.ga K "Pattern") "__init__"))
  p_Pattern_text : PropOf K (He.ga K "Pattern") "text" (pAd K "Pattern" "text") (gAd K "Pattern" "text")
  F_Pattern_text : FunD K "text" "Pattern.text" (defArgs (mth 12 1)) (defBody (mth 12 1)) (defScope (mth 12 1)) [] [] (gAd K "Pattern" "text") (fdOf K (gAd K "Pattern" "text"))
  F_Pattern___eq__ : FunD K "__eq__" "Pattern.__eq__" (defArgs (mth 12 7)) (defBody (mth 12 7)) (defScope (mth 12 7)) [] [] (He.ma K (He.ga K "Pattern") "__eq__") (fdOf K (He.ma K (He.ga K "Pattern") "__eq__"))
  F_Pattern___repr__ : FunD K "__repr__" "Pattern.__repr__" (defArgs (mth 12 6)) (defBody (mth 12 6)) (defScope (mth 12 6)) [] [] (He.ma K (He.ga K "Pattern") "__repr__") (fdOf K (He.ma K (He.ga K "Pattern") "__repr__"))
  F_Pattern___str__ : FunD K "__str__" "Pattern.__str__" (defArgs (mth 12 5)) (defBody (mth 12 5)) (defScope (mth 12 5)) [] [] (He.ma K (He.ga K "Pattern") "__str__") (fdOf K (He.ma K (He.ga K "Pattern") "__str__"))
  f_is_integer : mg "is_integer" = some (.ref (He.ga K "is_integer"))
  F_is_integer : FunD K "is_integer" "is_integer" (defArgs (top 8)) (defBody (top 8)) (defScope (top 8)) [] [] (He.ga K "is_integer") (fdOf K (He.ga K "is_integer"))
  F_Pattern_figure : FunD K "figure" "Pattern.figure" (defArgs (mth 12 4)) (defBody (mth 12 4)) (defScope (mth 12 4)) [] [] (He.ma K (He.ga K "Pattern") "figure") (fdOf K (He.ma K (He.ga K "Pattern") "figure"))
  p_Pattern_height : PropOf K (He.ga K "Pattern") "height" (pAd K "Pattern" "height") (gAd K "Pattern" "height")
  F_Pattern_height : FunD K "height" "Pattern.height" (defArgs (mth 12 3)) (defBody (mth 12 3)) (defScope (mth 12 3)) [] [] (gAd K "Pattern" "height") (fdOf K (gAd K "Pattern" "height"))
  p_Pattern_width : PropOf K (He.ga K "Pattern") "width" (pAd K "Pattern" "width") (gAd K "Pattern" "width")
  F_Pattern_width : FunD K "width" "Pattern.width" (defArgs (mth 12 2)) (defBody (mth 12 2)) (defScope (mth 12 2)) [] [] (gAd K "Pattern" "width") (fdOf K (gAd K "Pattern" "width"))
  f_law_at : mg "_law_at" = some (.ref (He.ga K "_law_at"))
  F_law_at : FunD K "_law_at" "_law_at" (defArgs (top 22)) (defBody (top 22)) (defScope (top 22)) [] [] (He.ga K "_law_at") (fdOf K (He.ga K "_law_at"))
  f_law_roll : mg "_law_roll" = some (.ref (He.ga K "_law_roll"))
  F_law_roll : FunD K "_law_roll" "_law_roll" (defArgs (top 18)) (defBody (top 18)) (defScope (top 18)) [] [] (He.ga K "_law_roll") (fdOf K (He.ga K "_law_roll"))
  f_law_pick : mg "_law_pick" = some (.ref (He.ga K "_law_pick"))
  F_law_pick : FunD K "_law_pick" "_law_pick" (defArgs (top 20)) (defBody (top 20)) (defScope (top 20)) [] [] (He.ga K "_law_pick") (fdOf K (He.ga K "_law_pick"))
  f_law_bent : mg "_law_bent" = some (.ref (He.ga K "_law_bent"))
  F_law_bent : FunD K "_law_bent" "_law_bent" (defArgs (top 28)) (defBody (top 28)) (defScope (top 28)) [] [] (He.ga K "_law_bent") (fdOf K (He.ga K "_law_bent"))
  f_law_caught : mg "_law_caught" = some (.ref (He.ga K "_law_caught"))
  F_law_caught : FunD K "_law_caught" "_law_caught" (defArgs (top 27)) (defBody (top 27)) (defScope (top 27)) [] [] (He.ga K "_law_caught") (fdOf K (He.ga K "_law_caught"))
  f_law_shift : mg "_law_shift" = some (.ref (He.ga K "_law_shift"))
  F_law_shift : FunD K "_law_shift" "_law_shift" (defArgs (top 21)) (defBody (top 21)) (defScope (top 21)) [] [] (He.ga K "_law_shift") (fdOf K (He.ga K "_law_shift"))
  f_law_grid : mg "_law_grid" = some (.ref (He.ga K "_law_grid"))
  F_law_grid : FunD K "_law_grid" "_law_grid" (defArgs (top 23)) (defBody (top 23)) (defScope (top 23)) [] [] (He.ga K "_law_grid") (fdOf K (He.ga K "_law_grid"))
  f_law_read : mg "_law_read" = some (.ref (He.ga K "_law_read"))
  F_law_read : FunD K "_law_read" "_law_read" (defArgs (top 25)) (defBody (top 25)) (defScope (top 25)) [] [] (He.ga K "_law_read") (fdOf K (He.ga K "_law_read"))
  f_law_same : mg "_law_same" = some (.ref (He.ga K "_law_same"))
  F_law_same : FunD K "_law_same" "_law_same" (defArgs (top 19)) (defBody (top 19)) (defScope (top 19)) [] [] (He.ga K "_law_same") (fdOf K (He.ga K "_law_same"))
  f_law_spelled : mg "_law_spelled" = some (.ref (He.ga K "_law_spelled"))
  F_law_spelled : FunD K "_law_spelled" "_law_spelled" (defArgs (top 24)) (defBody (top 24)) (defScope (top 24)) [] [] (He.ga K "_law_spelled") (fdOf K (He.ga K "_law_spelled"))
  f_law_wrong : mg "_law_wrong" = some (.ref (He.ga K "_law_wrong"))
  F_law_wrong : FunD K "_law_wrong" "_law_wrong" (defArgs (top 26)) (defBody (top 26)) (defScope (top 26)) [] [] (He.ga K "_law_wrong") (fdOf K (He.ga K "_law_wrong"))
  f_law_case_right : mg "_law_case_right" = some (.ref (He.ga K "_law_case_right"))
  F_law_case_right : FunD K "_law_case_right" "_law_case_right" (defArgs (top 29)) (defBody (top 29)) (defScope (top 29)) [] [] (He.ga K "_law_case_right") (fdOf K (He.ga K "_law_case_right"))
  f_law_cell : mg "_law_cell" = some (.ref (He.ga K "_law_cell"))
  F_law_cell : FunD K "_law_cell" "_law_cell" (defArgs (top 16)) (defBody (top 16)) (defScope (top 16)) [] [] (He.ga K "_law_cell") (fdOf K (He.ga K "_law_cell"))
  f_law_purse : mg "_law_purse" = some (.ref (He.ga K "_law_purse"))
  F_law_purse : FunD K "_law_purse" "_law_purse" (defArgs (top 17)) (defBody (top 17)) (defScope (top 17)) [] [] (He.ga K "_law_purse") (fdOf K (He.ga K "_law_purse"))
  f_law : mg "law" = some (.ref (He.ga K "law"))
  F_law : FunD K "law" "law" (defArgs (top 30)) (defBody (top 30)) (defScope (top 30)) [] [] (He.ga K "law") (fdOf K (He.ga K "law"))
  F_InvalidText___init__ : FunD K "__init__" "InvalidText.__init__" (defArgs (mth 3 0)) (defBody (mth 3 0)) (defScope (mth 3 0)) [] [] (He.ma K (He.ga K "InvalidText") "__init__") (fdOf K (He.ma K (He.ga K "InvalidText") "__init__"))
  F_NotMutual___init__ : FunD K "__init__" "NotMutual.__init__" (defArgs (mth 5 0)) (defBody (mth 5 0)) (defScope (mth 5 0)) [] [] (He.ma K (He.ga K "NotMutual") "__init__") (fdOf K (He.ma K (He.ga K "NotMutual") "__init__"))
  f_Pattern : mg "Pattern" = some (.ref (He.ga K "Pattern"))
  k_Pattern : CF K (He.ga K "Pattern")
  m_Pattern : Mk K (He.ga K "Pattern") (He.ma K (He.ga K "Pattern") "__init__")
  f_InvalidText : mg "InvalidText" = some (.ref (He.ga K "InvalidText"))
  x_InvalidText : ExF K "InvalidText" "given"
  f_NotMutual : mg "NotMutual" = some (.ref (He.ga K "NotMutual"))
  x_NotMutual : ExA K "NotMutual" "place"
  ct_law_caught : CatF K [(0, "InvalidText"), (14, "NotMutual")]
  ok : WdOk (wd w K)
  n_Pattern_rows : NoAttr K (He.ga K "Pattern") "rows"
  n_Pattern_written : NoAttr K (He.ga K "Pattern") "written"
  h_Pattern___eq__ : Meth K (He.ga K "Pattern") "__eq__" (He.ma K (He.ga K "Pattern") "__eq__")
  h_Pattern___repr__ : Meth K (He.ga K "Pattern") "__repr__" (He.ma K (He.ga K "Pattern") "__repr__")
  h_Pattern___str__ : Meth K (He.ga K "Pattern") "__str__" (He.ma K (He.ga K "Pattern") "__str__")
  h_Pattern_figure : Meth K (He.ga K "Pattern") "figure" (He.ma K (He.ga K "Pattern") "figure")
  nf_Pattern : ∀ (x : TyC) (u : Value), x.fit = true → x.v (wd w K) u → PySem.W.notFirst K (He.ga K "Pattern") u = true
  ne_Pattern : PySem.W.findIn K (.ref (He.ga K "Pattern")) "__ne__" = some (some (.builtin "object.__ne__"))
  i_Pattern : ∀ x u, x.fit = true → x.v (wd w K) u → PySem.W.kitOne K u (.ref (He.ga K "Pattern")) = some (isiB x (.o 2))
  i_bool : ∀ x u, x.fit = true → x.v (wd w K) u → PySem.W.kitOne K u (.type "bool") = some (isiB x (.b "bool"))
  i_int : ∀ x u, x.fit = true → x.v (wd w K) u → PySem.W.kitOne K u (.type "int") = some (isiB x (.b "int"))
  i_list : ∀ x u, x.fit = true → x.v (wd w K) u → PySem.W.kitOne K u (.type "list") = some (isiB x (.b "list"))
  i_str : ∀ x u, x.fit = true → x.v (wd w K) u → PySem.W.kitOne K u (.type "str") = some (isiB x (.b "str"))
  i_tuple : ∀ x u, x.fit = true → x.v (wd w K) u → PySem.W.kitOne K u (.type "tuple") = some (isiB x (.b "tuple"))
  c_MOST_SIDE : ∃ t, mg "MOST_SIDE" = some (.int 12 t)
  c_SHIFTS : mg "SHIFTS" = some (.ref (He.ga K "SHIFTS"))
  d_SHIFTS : KD (wd w K) w (He.ga K "SHIFTS") kv_SHIFTS
  tbi : TbInj (wd w K)
structure Gs (w : World) (K : PySem.W.Frag) (mg : Str → Option Value) (base : Heap) : Prop extends GsA w K mg where
  t_law_case_right : LamX.TabB base mg (He.cT K ("_law_case_right", none)).1 (He.cT K ("_law_case_right", none)).2
section
variable {P : Program} {w : World} {K : PySem.W.Frag} {mg : Str → Option Value} {base : Heap}
theorem sc_InvalidText___init__ : FnScope ["self", "given"] ["self", "given"] (defScope (mth 3 0)) := ⟨rfl, rfl, rfl, by decide +kernel, rfl, by decide +kernel, by decide +kernel⟩
theorem b_InvalidText___init__ (g : Gs w K mg base) : Binds K (fdOf K (He.ma K (He.ga K "InvalidText") "__init__")) ["self", "given"] [] := g.F_InvalidText___init__.bindsN fun _ _ _ _ _ _ us hl => match us, hl with | [_, _], _ => rfl
theorem ok_InvalidText___init__ (g : Gs w K mg base) : FnOk P w K mg base CX0 1 (He.ma K (He.ga K "InvalidText") "__init__") (fdOf K (He.ma K (He.ga K "InvalidText") "__init__")) ["self", "given"] (spInit K "given") :=
  fnInit g.F_InvalidText___init__ sc_InvalidText___init__ fun cdv A outer st H E => pss_one (ps_ost (pe_var rfl (.inl rfl)) (pe_var rfl (.inl rfl)))
theorem sc_NotMutual___init__ : FnScope ["self", "place"] ["self", "place"] (defScope (mth 5 0)) := ⟨rfl, rfl, rfl, by decide +kernel, rfl, by decide +kernel, by decide +kernel⟩
theorem b_NotMutual___init__ (g : Gs w K mg base) : Binds K (fdOf K (He.ma K (He.ga K "NotMutual") "__init__")) ["self", "place"] [] := g.F_NotMutual___init__.bindsN fun _ _ _ _ _ _ us hl => match us, hl with | [_, _], _ => rfl
theorem ok_NotMutual___init__ (g : Gs w K mg base) : FnOk P w K mg base CX0 1 (He.ma K (He.ga K "NotMutual") "__init__") (fdOf K (He.ma K (He.ga K "NotMutual") "__init__")) ["self", "place"] (spInitB K aeM aeN "place") :=
  fnInitB g.F_NotMutual___init__ sc_NotMutual___init__ fun cdv A outer st H E => pss_one (psStoreB PySem.F.store_ArithmeticError (pe_var rfl (.inl rfl)) (pe_var rfl (.inl rfl)))
theorem sc_figure_at : FnScope ["pattern", "x", "y", "row"] ["pattern", "x", "y"] (defScope (top 13)) := ⟨rfl, rfl, rfl, by decide +kernel, rfl, by decide +kernel, by decide +kernel⟩
theorem b_figure_at (g : Gs w K mg base) : Binds K (fdOf K (He.ga K "figure_at")) ["pattern", "x", "y"] [] := g.F_figure_at.bindsN fun _ _ _ _ _ _ us hl => match us, hl with | [_, _, _], _ => rfl
theorem ok_figure_at (g : Gs w K mg base) : FnOk P w K mg base CX0 1 (He.ga K "figure_at") (fdOf K (He.ga K "figure_at")) ["pattern", "x", "y"] (spM (wd w K) m_figure_at) :=
  fnM g.F_figure_at sc_figure_at 4 3 rfl rfl fun cdv A outer s H E hr =>
    (xsCons (xsSet (i := 3) sc_figure_at.nd rfl (.inl rfl) (xIx rfl (xFld (c := 2) (i := 1) rfl rfl rfl fn_nd_Pattern g.k_Pattern.cls g.n_Pattern_rows (xVar 0)) (xOp ot_mod op_mod (xVar 2) (xCallB ct_len call_len rfl g.b_len bt_len (xaCons (xFld (c := 2) (i := 1) rfl rfl rfl fn_nd_Pattern g.k_Pattern.cls g.n_Pattern_rows (xVar 0)) xaNil))) (fun _ _ => rfl)))
    (xsOne (xsRet (xIx rfl (xVar 3) (xOp ot_mod op_mod (xVar 1) (xCallB ct_len call_len rfl g.b_len bt_len (xaCons (xVar 3) xaNil))) (fun _ _ => rfl)))))
theorem sc_first_wrong : FnScope ["pattern", "y", "row", "x", "figure", "shift"] ["pattern"] (defScope (top 14)) := ⟨rfl, rfl, rfl, by decide +kernel, rfl, by decide +kernel, by decide +kernel⟩
theorem b_first_wrong (g : Gs w K mg base) : Binds K (fdOf K (He.ga K "first_wrong")) ["pattern"] [] := g.F_first_wrong.bindsN fun _ _ _ _ _ _ us hl => match us, hl with | [_], _ => rfl
theorem ok_first_wrong (g : Gs w K mg base) : FnOk P w K mg base CX0 2 (He.ga K "first_wrong") (fdOf K (He.ga K "first_wrong")) ["pattern"] (spM (wd w K) m_first_wrong) :=
  fnM g.F_first_wrong sc_first_wrong 6 1 rfl rfl fun cdv A outer s H E hr =>
    (xsCons (xsFor (fun _ _ z => z.elim) rfl (xiEnum rfl rfl g.b_enumerate (xaCons (xFld (c := 2) (i := 1) rfl rfl rfl fn_nd_Pattern g.k_Pattern.cls g.n_Pattern_rows (xVar 0)) xaNil)) (xgTup (n := 2) rfl rfl (xgsCons (xgName (i := 1) sc_first_wrong.nd rfl (.inl rfl)) (xgsCons (xgName (i := 2) sc_first_wrong.nd rfl (.inl rfl)) xgsNil))) (xsOne (xsFor (fun _ _ z => z.elim) rfl (xiEnumS rfl g.b_enumerate (xaCons (xVar 2) xaNil)) (xgTup (n := 2) rfl rfl (xgsCons (xgName (i := 3) sc_first_wrong.nd rfl (.inl rfl)) (xgsCons (xgName (i := 4) sc_first_wrong.nd rfl (.inl rfl)) xgsNil))) (xsOne (xsIf (xtCmp ot_ne (op_neP (room80 hr)) (xVar 4) xStr) (xsCons (xsSet (i := 5) sc_first_wrong.nd rfl (.inl rfl) (xIxK rfl g.d_SHIFTS rfl g.c_SHIFTS (xVar 4) (fun _ _ => rfl)))
    (xsOne (xsIf (xtCmp ot_ne (op_neP (room80 hr)) (xOp ot_add oAdd (xCallTy ct_int oInt rfl g.b_int bt_int (xaCons (xCall (ok_figure_at g) (hr.mono (by decide)) rfl g.f_figure_at g.F_figure_at.kp (b_figure_at g) (xaCons (xVar 0) (xaCons (xOp ot_add oAdd (xVar 3) (xIx rfl (xVar 5) xInt (fun _ _ => rfl))) (xaCons (xOp ot_add oAdd (xVar 1) (xIx rfl (xVar 5) xInt (fun _ _ => rfl))) xaNil)))) xaNil)) (xCallTy ct_int oInt rfl g.b_int bt_int (xaCons (xVar 4) xaNil))) xInt) (xsOne (xsRet (xTup (xaCons (xVar 3) (xaCons (xVar 1) xaNil))))) xsNil))) xsNil)))))
    (xsOne (xsRet xNon)))
theorem sc_rows_in : FnScope ["text", "rows", "row", "figure"] ["text"] (defScope (top 11)) := ⟨rfl, rfl, rfl, by decide +kernel, rfl, by decide +kernel, by decide +kernel⟩
theorem b_rows_in (g : Gs w K mg base) : Binds K (fdOf K (He.ga K "rows_in")) ["text"] [] := g.F_rows_in.bindsN fun _ _ _ _ _ _ us hl => match us, hl with | [_], _ => rfl
theorem ok_rows_in (g : Gs w K mg base) : FnOk P w K mg base CX0 1 (He.ga K "rows_in") (fdOf K (He.ga K "rows_in")) ["text"] (spM (wd w K) m_rows_in) :=
  fnM g.F_rows_in sc_rows_in 4 1 rfl rfl fun cdv A outer s H E hr =>
    (xsCons (xsSet (i := 1) sc_rows_in.nd rfl (.inr rfl) (xIf (xtVal (xIsi (y := .b "str") rfl g.ok rfl (.ty _) g.i_str (xVar 0) (pe_bltn rfl g.b_str bt_str rfl) rfl g.b_isinstance)) (xMt mt_split' rfl F.plainAttrs_str F.slot_str_split F.type_str_split mt_split (xVar 0) (xaCons xStr xaNil)) (xL (xLst xaNil))))
    (xsCons (xsIf (xtW (xwOr (xtNot (xtChain ot_le ot_le (oLe (room80 hr)) (oLe (room80 hr)) xInt (xCallB ct_len call_len rfl g.b_len bt_len (xaCons (xVar 1) xaNil)) (xGInt rfl g.c_MOST_SIDE))) (xwOr1 (xtNot (xtChain ot_le ot_le (oLe (room80 hr)) (oLe (room80 hr)) xInt (xCallB ct_len call_len rfl g.b_len bt_len (xaCons (xIx rfl (xVar 1) xInt (fun _ _ => rfl)) xaNil)) (xGInt rfl g.c_MOST_SIDE)))))) (xsOne (xsRet xNon)) xsNil)
    (xsCons (xsIf (xtNot (xtVal (xCallB ct_all (cr_all rfl) rfl g.b_all bt_all (xaCons (xL (xLc (own := [("row", 2)]) rfl sc_rows_in.nd (xiSeq rfl (xVar 1)) (blk_of rfl rfl) (fun _ _ _ _ _ => (wgName (i := 2) (by decide) sc_rows_in.nd rfl (.inl rfl))) (fun _ _ _ _ _ => xtsNil) (fun _ _ _ _ _ => (xAnd (xCmp ot_eq (op_eqP (room80 hr)) (xCallB ct_len call_len rfl g.b_len bt_len (xaCons (xVar 2) xaNil)) (xCallB ct_len call_len rfl g.b_len bt_len (xaCons (xIx rfl (xVar 1) xInt (fun _ _ => rfl)) xaNil))) (xOne (xCallB ct_all (cr_all rfl) rfl g.b_all bt_all (xaCons (xL (xLc (own := [("figure", 3)]) rfl sc_rows_in.nd (xiSeq rfl (xVar 2)) (blk_of rfl rfl) (fun _ _ _ _ _ => (wgName (i := 3) (by decide) sc_rows_in.nd rfl (.inl rfl))) (fun _ _ _ _ _ => xtsNil) (fun _ _ _ _ _ => (xCmp ot_inT (oIn (room80 hr)) (xVar 3) xStr)))) xaNil))))))) xaNil)))) (xsOne (xsRet xNon)) xsNil)
    (xsOne (xsRet (xRev rfl (xVar 1)))))))
theorem sc_Pattern___init__ : FnScope ["self", "text", "rows", "wrong"] ["self", "text"] (defScope (mth 12 0)) := ⟨rfl, rfl, rfl, by decide +kernel, rfl, by decide +kernel, by decide +kernel⟩
theorem b_Pattern___init__ (g : Gs w K mg base) : Binds K (fdOf K (He.ma K (He.ga K "Pattern") "__init__")) ["self", "text"] [] := g.F_Pattern___init__.bindsN fun _ _ _ _ _ _ us hl => match us, hl with | [_, _], _ => rfl
theorem kb_Pattern___init___text (g : Gs w K mg base) : KwB K (fdOf K (He.ma K (He.ga K "Pattern") "__init__")) ["self", "text"] ["text"] 1 [0] := kwB g.F_Pattern___init__ fun _ _ _ _ _ _ us ws h1 h2 => match us, ws, h1, h2 with | [_], [_], _, _ => rfl
theorem okx_Pattern___init__ (g : Gs w K mg base) : FnOk P w K mg base (L2.CX P w) 3 (He.ma K (He.ga K "Pattern") "__init__") (fdOf K (He.ma K (He.ga K "Pattern") "__init__")) ["self", "text"] (spX (wd w K) mx_Pattern___init__) :=
  fnX g.F_Pattern___init__ sc_Pattern___init__ 4 2 rfl rfl fun cdv A outer s H E hr tk hp =>
    (xxCons (xxL (xsSet (i := 2) sc_Pattern___init__.nd rfl (.inl rfl) (xCall (ok_rows_in g) (hr.mono (by decide)) rfl g.f_rows_in g.F_rows_in.kp (b_rows_in g) (xaCons (xVar 1) xaNil))))
    (xxCons (xxIf (xtCmp ot_is op_isN (xVar 2) xNon) (xxOne (xxRaise (c := 0) rfl rfl tk rfl rfl g.x_InvalidText.cls g.x_InvalidText.no g.x_InvalidText.init g.x_InvalidText.fn (ok_InvalidText___init__ g) (hr.mono (by decide)) (b_InvalidText___init__ g) rfl g.f_InvalidText (xaCons (xVar 1) xaNil))) xxNil)
    (xxCons (xxL (xsAsg (xTup (xaCons (xVar 1) (xaCons (xVar 2) xaNil))) (xgTup (n := 2) rfl rfl (xgsCons (xgFld (c := 2) (i := 0) rfl rfl rfl fn_nd_Pattern fn_lt_Pattern g.k_Pattern.cls g.n_Pattern_written (xVar 0)) (xgsCons (xgFld (c := 2) (i := 1) rfl rfl rfl fn_nd_Pattern fn_lt_Pattern g.k_Pattern.cls g.n_Pattern_rows (xVar 0)) xgsNil)))))
    (xxCons (xxL (xsSet (i := 3) sc_Pattern___init__.nd rfl (.inl rfl) (xCall (ok_first_wrong g) (hr.mono (by decide)) rfl g.f_first_wrong g.F_first_wrong.kp (b_first_wrong g) (xaCons (xVar 0) xaNil))))
    (xxOne (xxIf (xtCmp ot_isn op_notN (xVar 3) xNon) (xxOne (xxRaiseB (c := 14) PySem.F.excBase_ArithmeticError rfl tk rfl rfl g.x_NotMutual.cls g.x_NotMutual.no g.x_NotMutual.init g.x_NotMutual.fn (ok_NotMutual___init__ g) (hr.mono (by decide)) (b_NotMutual___init__ g) rfl g.f_NotMutual (xaCons (xVar 3) xaNil))) xxNil))))))
theorem ok_Pattern___init__ (g : Gs w K mg base) : FnOk P w K mg base CX0 3 (He.ma K (He.ga K "Pattern") "__init__") (fdOf K (He.ma K (He.ga K "Pattern") "__init__")) ["self", "text"] (spM (wd w K) m_Pattern___init__) := fnRef ref_Pattern___init__ (okx_Pattern___init__ g)
theorem sc_Pattern_text : FnScope ["self"] ["self"] (defScope (mth 12 1)) := ⟨rfl, rfl, rfl, by decide +kernel, rfl, by decide +kernel, by decide +kernel⟩
theorem b_Pattern_text (g : Gs w K mg base) : Binds K (fdOf K (gAd K "Pattern" "text")) ["self"] [] := g.F_Pattern_text.bindsN fun _ _ _ _ _ _ us hl => match us, hl with | [_], _ => rfl
theorem ok_Pattern_text (g : Gs w K mg base) : FnOk P w K mg base CX0 1 (gAd K "Pattern" "text") (fdOf K (gAd K "Pattern" "text")) ["self"] (spM (wd w K) m_Pattern_text) :=
  fnM g.F_Pattern_text sc_Pattern_text 1 1 rfl rfl fun cdv A outer s H E hr =>
    (xsOne (xsRet (xFld (c := 2) (i := 0) rfl rfl rfl fn_nd_Pattern g.k_Pattern.cls g.n_Pattern_written (xVar 0))))
theorem sc_Pattern___eq__ : FnScope ["self", "other"] ["self", "other"] (defScope (mth 12 7)) := ⟨rfl, rfl, rfl, by decide +kernel, rfl, by decide +kernel, by decide +kernel⟩
theorem b_Pattern___eq__ (g : Gs w K mg base) : Binds K (fdOf K (He.ma K (He.ga K "Pattern") "__eq__")) ["self", "other"] [] := g.F_Pattern___eq__.bindsN fun _ _ _ _ _ _ us hl => match us, hl with | [_, _], _ => rfl
theorem ok_Pattern___eq__ (g : Gs w K mg base) : FnOk P w K mg base CX0 3 (He.ma K (He.ga K "Pattern") "__eq__") (fdOf K (He.ma K (He.ga K "Pattern") "__eq__")) ["self", "other"] (spM (wd w K) m_Pattern___eq__) :=
  fnM g.F_Pattern___eq__ sc_Pattern___eq__ 2 2 rfl rfl fun cdv A outer s H E hr =>
    (xsOne (xsRet (xAnd (xIsi (y := .o 2) rfl g.ok ⟨_, rfl, rfl⟩ (.own _) g.i_Pattern (xVar 1) (pe_glob rfl g.f_Pattern rfl) rfl g.b_isinstance) (xOne (xCmp ot_eq (op_eqP (room80 hr)) (xFld (c := 2) (i := 0) rfl rfl rfl fn_nd_Pattern g.k_Pattern.cls g.n_Pattern_written (xVar 0)) (xProp (c := 2) rfl rfl g.k_Pattern.cls g.p_Pattern_text (ok_Pattern_text g) (hr.mono (by decide)) (b_Pattern_text g) (xVar 1)))))))
theorem sc_Pattern___repr__ : FnScope ["self"] ["self"] (defScope (mth 12 6)) := ⟨rfl, rfl, rfl, by decide +kernel, rfl, by decide +kernel, by decide +kernel⟩
theorem b_Pattern___repr__ (g : Gs w K mg base) : Binds K (fdOf K (He.ma K (He.ga K "Pattern") "__repr__")) ["self"] [] := g.F_Pattern___repr__.bindsN fun _ _ _ _ _ _ us hl => match us, hl with | [_], _ => rfl
theorem ok_Pattern___repr__ (g : Gs w K mg base) : FnOk P w K mg base CX0 1 (He.ma K (He.ga K "Pattern") "__repr__") (fdOf K (He.ma K (He.ga K "Pattern") "__repr__")) ["self"] (spM (wd w K) m_Pattern___repr__) :=
  fnM g.F_Pattern___repr__ sc_Pattern___repr__ 1 1 rfl rfl fun cdv A outer s H E hr =>
    (xsOne (xsRet (xJoin (.cons xStr (.cons (xFmt (xCallB ct_len call_len rfl g.b_len bt_len (xaCons (xIx rfl (xFld (c := 2) (i := 1) rfl rfl rfl fn_nd_Pattern g.k_Pattern.cls g.n_Pattern_rows (xVar 0)) xInt (fun _ _ => rfl)) xaNil))) (.cons xStr (.cons (xFmt (xCallB ct_len call_len rfl g.b_len bt_len (xaCons (xFld (c := 2) (i := 1) rfl rfl rfl fn_nd_Pattern g.k_Pattern.cls g.n_Pattern_rows (xVar 0)) xaNil))) .nil)))))))
theorem sc_Pattern___str__ : FnScope ["self"] ["self"] (defScope (mth 12 5)) := ⟨rfl, rfl, rfl, by decide +kernel, rfl, by decide +kernel, by decide +kernel⟩
theorem b_Pattern___str__ (g : Gs w K mg base) : Binds K (fdOf K (He.ma K (He.ga K "Pattern") "__str__")) ["self"] [] := g.F_Pattern___str__.bindsN fun _ _ _ _ _ _ us hl => match us, hl with | [_], _ => rfl
theorem ok_Pattern___str__ (g : Gs w K mg base) : FnOk P w K mg base CX0 1 (He.ma K (He.ga K "Pattern") "__str__") (fdOf K (He.ma K (He.ga K "Pattern") "__str__")) ["self"] (spM (wd w K) m_Pattern___str__) :=
  fnM g.F_Pattern___str__ sc_Pattern___str__ 1 1 rfl rfl fun cdv A outer s H E hr =>
    (xsOne (xsRet (xCallTy ct_strS SkE.call_str_str rfl g.b_str bt_str (xaCons (xFld (c := 2) (i := 0) rfl rfl rfl fn_nd_Pattern g.k_Pattern.cls g.n_Pattern_written (xVar 0)) xaNil))))
theorem sc_is_integer : FnScope ["value"] ["value"] (defScope (top 8)) := ⟨rfl, rfl, rfl, by decide +kernel, rfl, by decide +kernel, by decide +kernel⟩
theorem b_is_integer (g : Gs w K mg base) : Binds K (fdOf K (He.ga K "is_integer")) ["value"] [] := g.F_is_integer.bindsN fun _ _ _ _ _ _ us hl => match us, hl with | [_], _ => rfl
theorem ok_is_integer (g : Gs w K mg base) : FnOk P w K mg base CX0 1 (He.ga K "is_integer") (fdOf K (He.ga K "is_integer")) ["value"] (spM (wd w K) m_is_integer) :=
  fnM g.F_is_integer sc_is_integer 1 1 rfl rfl fun cdv A outer s H E hr =>
    (xsOne (xsRet (xAnd (xIsi (y := .b "int") rfl g.ok rfl (.ty _) g.i_int (xVar 0) (pe_bltn rfl g.b_int bt_int rfl) rfl g.b_isinstance) (xOne (xNot (xIsi (y := .b "bool") rfl g.ok rfl (.ty _) g.i_bool (xVar 0) (pe_bltn rfl g.b_bool bt_bool rfl) rfl g.b_isinstance))))))
theorem sc_Pattern_figure : FnScope ["self", "x", "y", "value"] ["self", "x", "y"] (defScope (mth 12 4)) := ⟨rfl, rfl, rfl, by decide +kernel, rfl, by decide +kernel, by decide +kernel⟩
theorem b_Pattern_figure (g : Gs w K mg base) : Binds K (fdOf K (He.ma K (He.ga K "Pattern") "figure")) ["self", "x", "y"] [] := g.F_Pattern_figure.bindsN fun _ _ _ _ _ _ us hl => match us, hl with | [_, _, _], _ => rfl
theorem kb_Pattern_figure_y_x (g : Gs w K mg base) : KwB K (fdOf K (He.ma K (He.ga K "Pattern") "figure")) ["self", "x", "y"] ["y", "x"] 1 [1, 0] := kwB g.F_Pattern_figure fun _ _ _ _ _ _ us ws h1 h2 => match us, ws, h1, h2 with | [_], [_, _], _, _ => rfl
theorem ok_Pattern_figure (g : Gs w K mg base) : FnOk P w K mg base CX0 2 (He.ma K (He.ga K "Pattern") "figure") (fdOf K (He.ma K (He.ga K "Pattern") "figure")) ["self", "x", "y"] (spM (wd w K) m_Pattern_figure) :=
  fnM g.F_Pattern_figure sc_Pattern_figure 4 3 rfl rfl fun cdv A outer s H E hr =>
    (xsCons (xsFor (fun _ _ z => z.elim) rfl (xiSeq rfl (xTup (xaCons (xVar 1) (xaCons (xVar 2) xaNil)))) (xgName (i := 3) sc_Pattern_figure.nd rfl (.inl rfl)) (xsOne (xsIf (xtNot (xtVal (xCall (ok_is_integer g) (hr.mono (by decide)) rfl g.f_is_integer g.F_is_integer.kp (b_is_integer g) (xaCons (xVar 3) xaNil)))) (xsOne xsBad) xsNil)))
    (xsOne (xsRet (xCallTy ct_int oInt rfl g.b_int bt_int (xaCons (xCall (ok_figure_at g) (hr.mono (by decide)) rfl g.f_figure_at g.F_figure_at.kp (b_figure_at g) (xaCons (xVar 0) (xaCons (xVar 1) (xaCons (xVar 2) xaNil)))) xaNil)))))
theorem sc_Pattern_height : FnScope ["self"] ["self"] (defScope (mth 12 3)) := ⟨rfl, rfl, rfl, by decide +kernel, rfl, by decide +kernel, by decide +kernel⟩
theorem b_Pattern_height (g : Gs w K mg base) : Binds K (fdOf K (gAd K "Pattern" "height")) ["self"] [] := g.F_Pattern_height.bindsN fun _ _ _ _ _ _ us hl => match us, hl with | [_], _ => rfl
theorem ok_Pattern_height (g : Gs w K mg base) : FnOk P w K mg base CX0 1 (gAd K "Pattern" "height") (fdOf K (gAd K "Pattern" "height")) ["self"] (spM (wd w K) m_Pattern_height) :=
  fnM g.F_Pattern_height sc_Pattern_height 1 1 rfl rfl fun cdv A outer s H E hr =>
    (xsOne (xsRet (xCallB ct_len call_len rfl g.b_len bt_len (xaCons (xFld (c := 2) (i := 1) rfl rfl rfl fn_nd_Pattern g.k_Pattern.cls g.n_Pattern_rows (xVar 0)) xaNil))))
theorem sc_Pattern_width : FnScope ["self"] ["self"] (defScope (mth 12 2)) := ⟨rfl, rfl, rfl, by decide +kernel, rfl, by decide +kernel, by decide +kernel⟩
theorem b_Pattern_width (g : Gs w K mg base) : Binds K (fdOf K (gAd K "Pattern" "width")) ["self"] [] := g.F_Pattern_width.bindsN fun _ _ _ _ _ _ us hl => match us, hl with | [_], _ => rfl
theorem ok_Pattern_width (g : Gs w K mg base) : FnOk P w K mg base CX0 1 (gAd K "Pattern" "width") (fdOf K (gAd K "Pattern" "width")) ["self"] (spM (wd w K) m_Pattern_width) :=
  fnM g.F_Pattern_width sc_Pattern_width 1 1 rfl rfl fun cdv A outer s H E hr =>
    (xsOne (xsRet (xCallB ct_len call_len rfl g.b_len bt_len (xaCons (xIx rfl (xFld (c := 2) (i := 1) rfl rfl rfl fn_nd_Pattern g.k_Pattern.cls g.n_Pattern_rows (xVar 0)) xInt (fun _ _ => rfl)) xaNil))))
theorem sc_law_at : FnScope ["_law_grid_here", "_law_east", "_law_north"] ["_law_grid_here", "_law_east", "_law_north"] (defScope (top 22)) := ⟨rfl, rfl, rfl, by decide +kernel, rfl, by decide +kernel, by decide +kernel⟩
theorem b_law_at (g : Gs w K mg base) : Binds K (fdOf K (He.ga K "_law_at")) ["_law_grid_here", "_law_east", "_law_north"] [] := g.F_law_at.bindsN fun _ _ _ _ _ _ us hl => match us, hl with | [_, _, _], _ => rfl
theorem ok_law_at (g : Gs w K mg base) : FnOk P w K mg base CX0 1 (He.ga K "_law_at") (fdOf K (He.ga K "_law_at")) ["_law_grid_here", "_law_east", "_law_north"] (spM (wd w K) m_law_at) :=
  fnM g.F_law_at sc_law_at 3 3 rfl rfl fun cdv A outer s H E hr =>
    (xsOne (xsRet (xIx rfl (xIx rfl (xVar 0) (xOp ot_mod op_mod (xCallTy ct_int oInt rfl g.b_int bt_int (xaCons (xVar 2) xaNil)) (xCallB ct_len call_len rfl g.b_len bt_len (xaCons (xVar 0) xaNil))) (fun _ _ => rfl)) (xOp ot_mod op_mod (xCallTy ct_int oInt rfl g.b_int bt_int (xaCons (xVar 1) xaNil)) (xCallB ct_len call_len rfl g.b_len bt_len (xaCons (xIx rfl (xVar 0) xInt (fun _ _ => rfl)) xaNil))) (fun _ _ => rfl))))
theorem sc_law_roll : FnScope ["_law_purse_here", "_law_sides", "_law_figure", "_law_seed"] ["_law_purse_here", "_law_sides"] (defScope (top 18)) := ⟨rfl, rfl, rfl, by decide +kernel, rfl, by decide +kernel, by decide +kernel⟩
theorem b_law_roll (g : Gs w K mg base) : Binds K (fdOf K (He.ga K "_law_roll")) ["_law_purse_here", "_law_sides"] [] := g.F_law_roll.bindsN fun _ _ _ _ _ _ us hl => match us, hl with | [_, _], _ => rfl
theorem ok_law_roll (g : Gs w K mg base) : FnOk P w K mg base CX0 1 (He.ga K "_law_roll") (fdOf K (He.ga K "_law_roll")) ["_law_purse_here", "_law_sides"] (spM (wd w K) m_law_roll) :=
  fnM g.F_law_roll sc_law_roll 4 2 rfl rfl fun cdv A outer s H E hr =>
    (xsCons (xsAsg (xOp ot_add oAdd (xIx rfl (xVar 0) xInt (fun _ _ => rfl)) xInt) (xgSub st_setL (xVar 0) xInt set_list))
    (xsCons (xsIf (xtCmp ot_gt (oGt (room80 hr)) (xIx rfl (xVar 0) xInt (fun _ _ => rfl)) xInt) (xsCons (xsAsg (xCallB ct_divmod call_divmodW rfl g.b_divmod bt_divmod (xaCons (xIx rfl (xVar 0) xInt (fun _ _ => rfl)) (xaCons (xVar 1) xaNil))) (xgTup (n := 2) rfl rfl (xgsCons (xgSub st_setL (xVar 0) xInt set_list) (xgsCons (xgName (i := 2) sc_law_roll.nd rfl (.inl rfl)) xgsNil))))
    (xsOne (xsRet (xVar 2)))) xsNil)
    (xsCons (xsSet (i := 3) sc_law_roll.nd rfl (.inl rfl) (xCallTy ct_int oInt rfl g.b_int bt_int (xaCons (xIx rfl (xVar 0) xInt (fun _ _ => rfl)) xaNil)))
    (xsCons (xsAsg (xOp ot_mod op_mod (xCallTy ct_int oInt rfl g.b_int bt_int (xaCons (xOp ot_add oAdd (xOp ot_mul oMul (xVar 3) (xOp ot_add oAdd (xVar 3) xInt)) (xOp ot_mul oMul xInt (xIx rfl (xVar 0) xInt (fun _ _ => rfl)))) xaNil)) xInt) (xgSub st_setL (xVar 0) xInt set_list))
    (xsOne (xsRet (xOp ot_mod op_mod (xCallTy ct_int oInt rfl g.b_int bt_int (xaCons (xOp ot_fdv op_fdiv (xIx rfl (xVar 0) xInt (fun _ _ => rfl)) xInt) xaNil)) (xVar 1))))))))
theorem sc_law_pick : FnScope ["_law_purse_here", "_law_some"] ["_law_purse_here", "_law_some"] (defScope (top 20)) := ⟨rfl, rfl, rfl, by decide +kernel, rfl, by decide +kernel, by decide +kernel⟩
theorem b_law_pick (g : Gs w K mg base) : Binds K (fdOf K (He.ga K "_law_pick")) ["_law_purse_here", "_law_some"] [] := g.F_law_pick.bindsN fun _ _ _ _ _ _ us hl => match us, hl with | [_, _], _ => rfl
theorem ok_law_pick (g : Gs w K mg base) : FnOk P w K mg base CX0 2 (He.ga K "_law_pick") (fdOf K (He.ga K "_law_pick")) ["_law_purse_here", "_law_some"] (spM (wd w K) m_law_pick) :=
  fnM g.F_law_pick sc_law_pick 2 2 rfl rfl fun cdv A outer s H E hr =>
    (xsOne (xsRet (xIx rfl (xVar 1) (xCall (ok_law_roll g) (hr.mono (by decide)) rfl g.f_law_roll g.F_law_roll.kp (b_law_roll g) (xaCons (xVar 0) (xaCons (xCallB ct_len call_len rfl g.b_len bt_len (xaCons (xVar 1) xaNil)) xaNil))) (fun _ _ => rfl))))
theorem sc_law_bent : FnScope ["_law_purse_here", "_law_written", "_law_at_here", "_law_sign", "_law_other_sign", "_law_some"] ["_law_purse_here", "_law_written"] (defScope (top 28)) := ⟨rfl, rfl, rfl, by decide +kernel, rfl, by decide +kernel, by decide +kernel⟩
theorem b_law_bent (g : Gs w K mg base) : Binds K (fdOf K (He.ga K "_law_bent")) ["_law_purse_here", "_law_written"] [] := g.F_law_bent.bindsN fun _ _ _ _ _ _ us hl => match us, hl with | [_, _], _ => rfl
theorem ok_law_bent (g : Gs w K mg base) : FnOk P w K mg base CX0 3 (He.ga K "_law_bent") (fdOf K (He.ga K "_law_bent")) ["_law_purse_here", "_law_written"] (spM (wd w K) m_law_bent) :=
  fnM g.F_law_bent sc_law_bent 6 2 rfl rfl fun cdv A outer s H E hr =>
    (xsCons (xsPar (i := 2) (j := 3) rfl sc_law_bent.nd rfl rfl (by decide) rfl rfl (xaCons (xCall (ok_law_roll g) (hr.mono (by decide)) rfl g.f_law_roll g.F_law_roll.kp (b_law_roll g) (xaCons (xVar 0) (xaCons (xOp ot_add oAdd (xCallB ct_len call_len rfl g.b_len bt_len (xaCons (xVar 1) xaNil)) xInt) xaNil))) (xaCons (xCall (ok_law_pick g) (hr.mono (by decide)) rfl g.f_law_pick g.F_law_pick.kp (b_law_pick g) (xaCons (xVar 0) (xaCons xStr xaNil))) xaNil)) rfl)
    (xsCons (xsSet (i := 4) sc_law_bent.nd rfl (.inl rfl) (xOp ot_add oAdd (xOp ot_add oAdd (xSl rfl (xVar 1) xoNo (xoSome (xVar 2))) (xVar 3)) (xSl rfl (xVar 1) (xoSome (xOp ot_add oAdd (xVar 2) xInt)) xoNo)))
    (xsCons (xsSet (i := 5) sc_law_bent.nd rfl (.inl rfl) (xL (xLst (xaCons (xVar 1) (xaCons (xOp ot_add oAdd (xOp ot_add oAdd (xSl rfl (xVar 1) xoNo (xoSome (xVar 2))) (xVar 3)) (xSl rfl (xVar 1) (xoSome (xVar 2)) xoNo)) (xaCons (xVar 4) (xaCons (xOp ot_add oAdd (xSl rfl (xVar 1) xoNo (xoSome (xVar 2))) (xSl rfl (xVar 1) (xoSome (xOp ot_add oAdd (xVar 2) xInt)) xoNo)) xaNil)))))))
    (xsCons (xsSet (i := 5) sc_law_bent.nd rfl (.inl rfl) (xOp ot_add oAdd (xVar 5) (xL (xLst (xaCons (xOp ot_add oAdd (xOp ot_add oAdd (xVar 1) xStr) (xVar 1)) (xaCons (xOp ot_add oAdd xStr (xVar 1)) (xaCons (xOp ot_add oAdd (xVar 1) (xVar 1)) (xaCons (xOp ot_add oAdd (xVar 1) xStr) (xaCons xNon (xaCons (xL (xLst (xaCons (xVar 1) xaNil))) xaNil))))))))))
    (xsCons (xsSet (i := 5) sc_law_bent.nd rfl (.inl rfl) (xOp ot_add oAdd (xVar 5) (xL (xLst (xaCons xInt (xaCons xStr (xaCons (xTup (xaCons xStr xaNil)) (xaCons (xOp ot_mulS op_mulS xStr xInt) (xaCons (xMt mt_join' rfl F.plainAttrs_str F.slot_str_join F.type_str_join mt_join xStr (xaCons (xL (xMulF (xL (xLst (xaCons xStr xaNil))) xInt)) xaNil)) (xaCons xBl (xaCons xDNew xaNil)))))))))))
    (xsOne (xsRet (xCall (ok_law_pick g) (hr.mono (by decide)) rfl g.f_law_pick g.F_law_pick.kp (b_law_pick g) (xaCons (xVar 0) (xaCons (xOp ot_add oAdd (xVar 5) (xL (xMulF (xL (xLst (xaCons (xVar 4) xaNil))) xInt))) xaNil))))))))))
theorem sc_law_caught : FnScope ["_law_act", "e"] ["_law_act"] (defScope (top 27)) := ⟨rfl, rfl, rfl, by decide +kernel, rfl, by decide +kernel, by decide +kernel⟩
theorem b_law_caught (g : Gs w K mg base) : Binds K (fdOf K (He.ga K "_law_caught")) ["_law_act"] [] := g.F_law_caught.bindsN fun _ _ _ _ _ _ us hl => match us, hl with | [_], _ => rfl
theorem gv_law_caught (g : Gs w K mg base) {X : Cx} (hK : X.K = K) (hm : X.mg = mg) (z : Str) (cdv : Value) : LamX.GivesTo X ["_law_act", "e"] "_law_caught" (defScope (top 27)) (He.ga K "_law_caught") cdv (defBody (top 27)) "_law_act" z (tCat (wd w K) cat_law_caught) := by
  subst hK hm
  exact givesA (je := 1) rfl sc_law_caught.nd g.ct_law_caught.ap (by decide) (by decide) (fun _ => rfl) (fun _ => rfl) (fun _ _ => (clauseTold (k := 0) (g.ct_law_caught.xf (0, "InvalidText") (by decide)).1 (g.ct_law_caught.xf (0, "InvalidText") (by decide)).2 rfl ⟨rfl, rfl, .inl g.f_InvalidText⟩ rfl rfl (clauseTold (k := 14) (g.ct_law_caught.xf (14, "NotMutual") (by decide)).1 (g.ct_law_caught.xf (14, "NotMutual") (by decide)).2 rfl ⟨rfl, rfl, .inl g.f_NotMutual⟩ rfl rfl .end_))) (fun _ _ => (xsOne (xsRet (xTup xaNil))))
theorem sc_law_shift : FnScope ["_law_figure_here"] ["_law_figure_here"] (defScope (top 21)) := ⟨rfl, rfl, rfl, by decide +kernel, rfl, by decide +kernel, by decide +kernel⟩
theorem b_law_shift (g : Gs w K mg base) : Binds K (fdOf K (He.ga K "_law_shift")) ["_law_figure_here"] [] := g.F_law_shift.bindsN fun _ _ _ _ _ _ us hl => match us, hl with | [_], _ => rfl
theorem ok_law_shift (g : Gs w K mg base) : FnOk P w K mg base CX0 1 (He.ga K "_law_shift") (fdOf K (He.ga K "_law_shift")) ["_law_figure_here"] (spM (wd w K) m_law_shift) :=
  fnM g.F_law_shift sc_law_shift 1 1 rfl rfl fun cdv A outer s H E hr =>
    (xsOne (xsRet (xIx rfl (xL (xLst (xaCons (xTup (xaCons xInt (xaCons xInt xaNil))) (xaCons (xTup (xaCons (xNeg xInt) (xaCons (xNeg xInt) xaNil))) (xaCons (xTup (xaCons xInt (xaCons (xNeg xInt) xaNil))) (xaCons (xTup (xaCons xInt (xaCons (xNeg xInt) xaNil))) (xaCons (xTup (xaCons (xNeg xInt) (xaCons xInt xaNil))) (xaCons (xTup (xaCons xInt (xaCons xInt xaNil))) (xaCons (xTup (xaCons xInt (xaCons xInt xaNil))) (xaCons (xTup (xaCons (xNeg xInt) (xaCons xInt xaNil))) (xaCons (xTup (xaCons xInt (xaCons xInt xaNil))) (xaCons (xTup (xaCons xInt (xaCons xInt xaNil))) xaNil)))))))))))) (xVar 0) (fun _ _ => rfl))))
theorem sc_law_grid : FnScope ["_law_purse_here", "_law_most", "_law_wide", "_law_high", "_law_grid_here", "_law_k", "_law_turn", "_law_east", "_law_north", "_law_ahead", "_law_move", "_law_mate"] ["_law_purse_here", "_law_most"] (defScope (top 23)) := ⟨rfl, rfl, rfl, by decide +kernel, rfl, by decide +kernel, by decide +kernel⟩
theorem b_law_grid (g : Gs w K mg base) : Binds K (fdOf K (He.ga K "_law_grid")) ["_law_purse_here", "_law_most"] [] := g.F_law_grid.bindsN fun _ _ _ _ _ _ us hl => match us, hl with | [_, _], _ => rfl
theorem ok_law_grid (g : Gs w K mg base) : FnOk P w K mg base CX0 3 (He.ga K "_law_grid") (fdOf K (He.ga K "_law_grid")) ["_law_purse_here", "_law_most"] (spM (wd w K) m_law_grid) :=
  fnCut (fnM g.F_law_grid sc_law_grid 12 2 rfl rfl fun cdv A outer s H E hr =>
    (xsCons (xsAsg (xTup (xaCons (xOp ot_add oAdd xInt (xCall (ok_law_roll g) (hr.mono (by decide)) rfl g.f_law_roll g.F_law_roll.kp (b_law_roll g) (xaCons (xVar 0) (xaCons (xVar 1) xaNil)))) (xaCons (xOp ot_add oAdd xInt (xCall (ok_law_roll g) (hr.mono (by decide)) rfl g.f_law_roll g.F_law_roll.kp (b_law_roll g) (xaCons (xVar 0) (xaCons (xVar 1) xaNil)))) xaNil))) (xgTup (n := 2) rfl rfl (xgsCons (xgName (i := 2) sc_law_grid.nd rfl (.inr rfl)) (xgsCons (xgName (i := 3) sc_law_grid.nd rfl (.inl rfl)) xgsNil))))
    (xsCons (xsSetLcL (i := 4) (own := [("_law_k", 5)]) rfl sc_law_grid.nd rfl rfl rfl (xiRange1 rfl g.b_range (xaCons (xVar 3) xaNil)) (blk_of rfl rfl) (fun _ _ _ _ _ => (wgName (i := 5) (by decide) sc_law_grid.nd rfl (.inl rfl))) (fun _ _ _ _ _ => xtsNil) (fun _ _ _ _ _ => (xH (xMulF (xL (xLst (xaCons xInt xaNil))) (xVar 2)))))
    (xsCons (xsFor (fun _ _ z => z.elim) rfl (xiRange1 rfl g.b_range (xaCons (xOp ot_add oAdd xInt (xOp ot_mul oMul (xVar 2) (xVar 3))) xaNil)) (xgName (i := 6) sc_law_grid.nd rfl (.inl rfl)) (xsCons (xsPar3 (i := 7) (j := 8) (l := 9) rfl sc_law_grid.nd rfl rfl rfl (by decide) (by decide) (by decide) rfl rfl rfl (xaCons (xCall (ok_law_roll g) (hr.mono (by decide)) rfl g.f_law_roll g.F_law_roll.kp (b_law_roll g) (xaCons (xVar 0) (xaCons (xVar 2) xaNil))) (xaCons (xCall (ok_law_roll g) (hr.mono (by decide)) rfl g.f_law_roll g.F_law_roll.kp (b_law_roll g) (xaCons (xVar 0) (xaCons (xVar 3) xaNil))) (xaCons (xCall (ok_law_pick g) (hr.mono (by decide)) rfl g.f_law_pick g.F_law_pick.kp (b_law_pick g) (xaCons (xVar 0) (xaCons (xL (xLst (xaCons xInt (xaCons xInt (xaCons xInt (xaCons xInt (xaCons xInt xaNil))))))) xaNil))) xaNil))) rfl)
    (xsCons (xsSet (i := 10) sc_law_grid.nd rfl (.inl rfl) (xCall (ok_law_shift g) (hr.mono (by decide)) rfl g.f_law_shift g.F_law_shift.kp (b_law_shift g) (xaCons (xVar 9) xaNil)))
    (xsCons (xsSet (i := 11) sc_law_grid.nd rfl (.inl rfl) (xTup (xaCons (xOp ot_mod op_mod (xCallTy ct_int oInt rfl g.b_int bt_int (xaCons (xOp ot_add oAdd (xVar 7) (xIx rfl (xVar 10) xInt (fun _ _ => rfl))) xaNil)) (xVar 2)) (xaCons (xOp ot_mod op_mod (xCallTy ct_int oInt rfl g.b_int bt_int (xaCons (xOp ot_add oAdd (xVar 8) (xIx rfl (xVar 10) xInt (fun _ _ => rfl))) xaNil)) (xVar 3)) xaNil))))
    (xsOne (xsIf (xtW (xwAnd (xtCmp ot_ne (op_neP (room80 hr)) (xVar 11) (xTup (xaCons (xVar 7) (xaCons (xVar 8) xaNil)))) (xwAnd (xtCmp ot_eq (op_eqP (room80 hr)) (xIx rfl (xIx rfl (xVar 4) (xVar 8) (fun _ _ => rfl)) (xVar 7) (fun _ _ => rfl)) xInt) (xwAnd1 (xtCmp ot_eq (op_eqP (room80 hr)) (xIx rfl (xIx rfl (xVar 4) (xIx rfl (xVar 11) xInt (fun _ _ => rfl)) (fun _ _ => rfl)) (xIx rfl (xVar 11) xInt (fun _ _ => rfl)) (fun _ _ => rfl)) xInt))))) (xsCons (xsAsg (xVar 9) (xgSub st_setL (xIx rfl (xVar 4) (xVar 8) (fun _ _ => rfl)) (xVar 7) set_list))
    (xsOne (xsAsg (xOp ot_sub op_sub xInt (xVar 9)) (xgSub st_setL (xIx rfl (xVar 4) (xIx rfl (xVar 11) xInt (fun _ _ => rfl)) (fun _ _ => rfl)) (xIx rfl (xVar 11) xInt (fun _ _ => rfl)) set_list)))) xsNil))))))
    (xsOne (xsRet (xVar 4)))))))
theorem sc_law_read : FnScope ["_law_value", "_law_rows", "_law_row", "_law_sign"] ["_law_value"] (defScope (top 25)) := ⟨rfl, rfl, rfl, by decide +kernel, rfl, by decide +kernel, by decide +kernel⟩
theorem b_law_read (g : Gs w K mg base) : Binds K (fdOf K (He.ga K "_law_read")) ["_law_value"] [] := g.F_law_read.bindsN fun _ _ _ _ _ _ us hl => match us, hl with | [_], _ => rfl
theorem ok_law_read (g : Gs w K mg base) : FnOk P w K mg base CX0 1 (He.ga K "_law_read") (fdOf K (He.ga K "_law_read")) ["_law_value"] (spM (wd w K) m_law_read) :=
  fnM g.F_law_read sc_law_read 4 1 rfl rfl fun cdv A outer s H E hr =>
    (xsCons (xsSet (i := 1) sc_law_read.nd rfl (.inl rfl) (xIf (xtVal (xIsi (y := .b "str") rfl g.ok rfl (.ty _) g.i_str (xVar 0) (pe_bltn rfl g.b_str bt_str rfl) rfl g.b_isinstance)) (xMt mt_split' rfl F.plainAttrs_str F.slot_str_split F.type_str_split mt_split (xVar 0) (xaCons xStr xaNil)) (xL (xLst (xaCons xStr xaNil)))))
    (xsCons (xsIf (xtW (xwOr (xtNot (xtChain ot_le ot_le (oLe (room80 hr)) (oLe (room80 hr)) xInt (xCallB ct_len call_len rfl g.b_len bt_len (xaCons (xVar 1) xaNil)) xInt)) (xwOr1 (xtNot (xtChain ot_le ot_le (oLe (room80 hr)) (oLe (room80 hr)) xInt (xCallB ct_len call_len rfl g.b_len bt_len (xaCons (xIx rfl (xVar 1) xInt (fun _ _ => rfl)) xaNil)) xInt))))) (xsOne (xsRet (xTup xaNil))) xsNil)
    (xsCons (xsFor (fun _ _ z => z.elim) rfl (xiSeq rfl (xVar 1)) (xgName (i := 2) sc_law_read.nd rfl (.inl rfl)) (xsOne (xsIf (xtW (xwOr (xtCmp ot_ne (op_neP (room80 hr)) (xCallB ct_len call_len rfl g.b_len bt_len (xaCons (xVar 2) xaNil)) (xCallB ct_len call_len rfl g.b_len bt_len (xaCons (xIx rfl (xVar 1) xInt (fun _ _ => rfl)) xaNil))) (xwOr1 (xtNot (xtVal (xCallB ct_all (cr_all rfl) rfl g.b_all bt_all (xaCons (xL (xLc (own := [("_law_sign", 3)]) rfl sc_law_read.nd (xiSeq rfl (xVar 2)) (blk_of rfl rfl) (fun _ _ _ _ _ => (wgName (i := 3) (by decide) sc_law_read.nd rfl (.inl rfl))) (fun _ _ _ _ _ => xtsNil) (fun _ _ _ _ _ => (xCmp ot_inT (oIn (room80 hr)) (xVar 3) xStr)))) xaNil))))))) (xsOne (xsRet (xTup xaNil))) xsNil)))
    (xsOne (xsRet (xL (xLc (own := [("_law_row", 2)]) rfl sc_law_read.nd (xiSeq rfl (xRev rfl (xVar 1))) (blk_of rfl rfl) (fun _ _ _ _ _ => (wgName (i := 2) (by decide) sc_law_read.nd rfl (.inl rfl))) (fun _ _ _ _ _ => xtsNil) (fun _ _ _ _ _ => (xL (xLc (own := [("_law_sign", 3)]) rfl sc_law_read.nd (xiSeq rfl (xVar 2)) (blk_of rfl rfl) (fun _ _ _ _ _ => (wgName (i := 3) (by decide) sc_law_read.nd rfl (.inl rfl))) (fun _ _ _ _ _ => xtsNil) (fun _ _ _ _ _ => (xCallTy ct_int oInt rfl g.b_int bt_int (xaCons (xVar 3) xaNil)))))))))))))
theorem sc_law_same : FnScope ["_law_one", "_law_two", "_law_sort", "_law_k"] ["_law_one", "_law_two"] (defScope (top 19)) := ⟨rfl, rfl, rfl, by decide +kernel, rfl, by decide +kernel, by decide +kernel⟩
theorem b_law_same (g : Gs w K mg base) : Binds K (fdOf K (He.ga K "_law_same")) ["_law_one", "_law_two"] [] := g.F_law_same.bindsN fun _ _ _ _ _ _ us hl => match us, hl with | [_, _], _ => rfl
theorem ok_law_same : ∀ (kk : Nat) (g : Gs w K mg base), FnOk P w K mg base CX0 (0 + kk) (He.ga K "_law_same") (fdOf K (He.ga K "_law_same")) ["_law_one", "_law_two"] (spM (wd w K) (m_law_same kk))
  | 0, _ => fnBot
  | kk + 1, g => fnM g.F_law_same sc_law_same 4 2 rfl rfl fun cdv A outer s H E hr =>
    (xsCons (xsFor (fun _ _ z => z.elim) rfl (xiSeq rfl (xL (xLst (xaCons (xCmp ot_eq (op_eqP (room80 hr)) (xIsi (y := .b "tuple") rfl g.ok rfl (.ty _) g.i_tuple (xVar 0) (pe_bltn rfl g.b_tuple bt_tuple rfl) rfl g.b_isinstance) (xIsi (y := .b "tuple") rfl g.ok rfl (.ty _) g.i_tuple (xVar 1) (pe_bltn rfl g.b_tuple bt_tuple rfl) rfl g.b_isinstance)) (xaCons (xCmp ot_eq (op_eqP (room80 hr)) (xIsi (y := .b "list") rfl g.ok rfl (.ty _) g.i_list (xVar 0) (pe_bltn rfl g.b_list bt_list rfl) rfl g.b_isinstance) (xIsi (y := .b "list") rfl g.ok rfl (.ty _) g.i_list (xVar 1) (pe_bltn rfl g.b_list bt_list rfl) rfl g.b_isinstance)) (xaCons (xCmp ot_eq (op_eqP (room80 hr)) (xIsi (y := .b "bool") rfl g.ok rfl (.ty _) g.i_bool (xVar 0) (pe_bltn rfl g.b_bool bt_bool rfl) rfl g.b_isinstance) (xIsi (y := .b "bool") rfl g.ok rfl (.ty _) g.i_bool (xVar 1) (pe_bltn rfl g.b_bool bt_bool rfl) rfl g.b_isinstance)) (xaCons (xCmp ot_eq (op_eqP (room80 hr)) (xIsi (y := .b "int") rfl g.ok rfl (.ty _) g.i_int (xVar 0) (pe_bltn rfl g.b_int bt_int rfl) rfl g.b_isinstance) (xIsi (y := .b "int") rfl g.ok rfl (.ty _) g.i_int (xVar 1) (pe_bltn rfl g.b_int bt_int rfl) rfl g.b_isinstance)) xaNil))))))) (xgName (i := 2) sc_law_same.nd rfl (.inl rfl)) (xsOne (xsIf (xtNot (xtVal (xVar 2))) (xsOne (xsRet xBl)) xsNil)))
    (xsCons (xsIf (xtW (xwOr (xtVal (xIsi (y := .b "tuple") rfl g.ok rfl (.ty _) g.i_tuple (xVar 0) (pe_bltn rfl g.b_tuple bt_tuple rfl) rfl g.b_isinstance)) (xwOr1 (xtVal (xIsi (y := .b "list") rfl g.ok rfl (.ty _) g.i_list (xVar 0) (pe_bltn rfl g.b_list bt_list rfl) rfl g.b_isinstance))))) (xsOne (xsRet (xAnd (xCmp ot_eq (op_eqP (room80 hr)) (xCallB ct_len call_len rfl g.b_len bt_len (xaCons (xVar 0) xaNil)) (xCallB ct_len call_len rfl g.b_len bt_len (xaCons (xVar 1) xaNil))) (xOne (xCallB ct_all (cr_all rfl) rfl g.b_all bt_all (xaCons (xL (xLc (own := [("_law_k", 3)]) rfl sc_law_same.nd (xiRange1 rfl g.b_range (xaCons (xCallB ct_len call_len rfl g.b_len bt_len (xaCons (xVar 0) xaNil)) xaNil)) (blk_of rfl rfl) (fun _ _ _ _ _ => (wgName (i := 3) (by decide) sc_law_same.nd rfl (.inl rfl))) (fun _ _ _ _ _ => xtsNil) (fun _ _ _ _ _ => (xCall (ok_law_same kk g) (hr.mono (by first | exact Nat.le_refl _ | exact Nat.le_trans (m := 0) (by decide) (Nat.le_add_right _ _))) rfl g.f_law_same g.F_law_same.kp (b_law_same g) (xaCons (xIx rfl (xVar 0) (xVar 3) (fun _ _ => rfl)) (xaCons (xIx rfl (xVar 1) (xVar 3) (fun _ _ => rfl)) xaNil)))))) xaNil)))))) xsNil)
    (xsOne (xsRet (xCmp (ot_or ot_eq ot_eqDD) (op_or (op_eqP (room80 hr)) (op_eqDD (room80 hr))) (xVar 0) (xVar 1))))))
theorem sc_law_spelled : FnScope ["_law_grid_here", "_law_row", "_law_figure_here"] ["_law_grid_here"] (defScope (top 24)) := ⟨rfl, rfl, rfl, by decide +kernel, rfl, by decide +kernel, by decide +kernel⟩
theorem b_law_spelled (g : Gs w K mg base) : Binds K (fdOf K (He.ga K "_law_spelled")) ["_law_grid_here"] [] := g.F_law_spelled.bindsN fun _ _ _ _ _ _ us hl => match us, hl with | [_], _ => rfl
theorem ok_law_spelled (g : Gs w K mg base) : FnOk P w K mg base CX0 1 (He.ga K "_law_spelled") (fdOf K (He.ga K "_law_spelled")) ["_law_grid_here"] (spM (wd w K) m_law_spelled) :=
  fnM g.F_law_spelled sc_law_spelled 3 1 rfl rfl fun cdv A outer s H E hr =>
    (xsOne (xsRet (xMt mt_join' rfl F.plainAttrs_str F.slot_str_join F.type_str_join mt_join xStr (xaCons (xL (xLc (own := [("_law_row", 1)]) rfl sc_law_spelled.nd (xiSeq rfl (xRev rfl (xVar 0))) (blk_of rfl rfl) (fun _ _ _ _ _ => (wgName (i := 1) (by decide) sc_law_spelled.nd rfl (.inl rfl))) (fun _ _ _ _ _ => xtsNil) (fun _ _ _ _ _ => (xMt mt_join' rfl F.plainAttrs_str F.slot_str_join F.type_str_join mt_join xStr (xaCons (xL (xLc (own := [("_law_figure_here", 2)]) rfl sc_law_spelled.nd (xiSeq rfl (xVar 1)) (blk_of rfl rfl) (fun _ _ _ _ _ => (wgName (i := 2) (by decide) sc_law_spelled.nd rfl (.inl rfl))) (fun _ _ _ _ _ => xtsNil) (fun _ _ _ _ _ => (xCallTy ct_str call_str_int rfl g.b_str bt_str (xaCons (xVar 2) xaNil))))) xaNil))))) xaNil))))
theorem sc_law_wrong : FnScope ["_law_grid_here", "_law_north", "_law_east", "_law_figure_here", "_law_move", "_law_mate"] ["_law_grid_here"] (defScope (top 26)) := ⟨rfl, rfl, rfl, by decide +kernel, rfl, by decide +kernel, by decide +kernel⟩
theorem b_law_wrong (g : Gs w K mg base) : Binds K (fdOf K (He.ga K "_law_wrong")) ["_law_grid_here"] [] := g.F_law_wrong.bindsN fun _ _ _ _ _ _ us hl => match us, hl with | [_], _ => rfl
theorem ok_law_wrong (g : Gs w K mg base) : FnOk P w K mg base CX0 2 (He.ga K "_law_wrong") (fdOf K (He.ga K "_law_wrong")) ["_law_grid_here"] (spM (wd w K) m_law_wrong) :=
  fnM g.F_law_wrong sc_law_wrong 6 1 rfl rfl fun cdv A outer s H E hr =>
    (xsCons (xsFor (fun _ _ z => z.elim) rfl (xiRange1 rfl g.b_range (xaCons (xCallB ct_len call_len rfl g.b_len bt_len (xaCons (xVar 0) xaNil)) xaNil)) (xgName (i := 1) sc_law_wrong.nd rfl (.inl rfl)) (xsOne (xsFor (fun _ _ z => z.elim) rfl (xiRange1 rfl g.b_range (xaCons (xCallB ct_len call_len rfl g.b_len bt_len (xaCons (xIx rfl (xVar 0) xInt (fun _ _ => rfl)) xaNil)) xaNil)) (xgName (i := 2) sc_law_wrong.nd rfl (.inl rfl)) (xsCons (xsSet (i := 3) sc_law_wrong.nd rfl (.inl rfl) (xIx rfl (xIx rfl (xVar 0) (xVar 1) (fun _ _ => rfl)) (xVar 2) (fun _ _ => rfl)))
    (xsCons (xsSet (i := 4) sc_law_wrong.nd rfl (.inl rfl) (xCall (ok_law_shift g) (hr.mono (by decide)) rfl g.f_law_shift g.F_law_shift.kp (b_law_shift g) (xaCons (xVar 3) xaNil)))
    (xsCons (xsSet (i := 5) sc_law_wrong.nd rfl (.inl rfl) (xCall (ok_law_at g) (hr.mono (by decide)) rfl g.f_law_at g.F_law_at.kp (b_law_at g) (xaCons (xVar 0) (xaCons (xOp ot_add oAdd (xVar 2) (xIx rfl (xVar 4) xInt (fun _ _ => rfl))) (xaCons (xOp ot_add oAdd (xVar 1) (xIx rfl (xVar 4) xInt (fun _ _ => rfl))) xaNil)))))
    (xsOne (xsIf (xtW (xwAnd (xtCmp ot_gt (oGt (room80 hr)) (xVar 3) xInt) (xwAnd1 (xtCmp ot_ne (op_neP (room80 hr)) (xOp ot_add oAdd (xVar 5) (xVar 3)) xInt)))) (xsOne (xsRet (xTup (xaCons (xVar 2) (xaCons (xVar 1) xaNil))))) xsNil))))))))
    (xsOne (xsRet (xTup xaNil))))
theorem sc_law_case_right : FnScope ["_law_purse_here", "_law_turn", "_law_grid_here", "_law_written", "_law_thing", "_law_mate", "_law_seen", "_law_again", "_law_east", "_law_north", "_law_due", "_law_value", "_law_rows"] ["_law_purse_here"] (defScope (top 29)) := ⟨rfl, rfl, rfl, by decide +kernel, rfl, by decide +kernel, by decide +kernel⟩
theorem b_law_case_right (g : Gs w K mg base) : Binds K (fdOf K (He.ga K "_law_case_right")) ["_law_purse_here"] [] := g.F_law_case_right.bindsN fun _ _ _ _ _ _ us hl => match us, hl with | [_], _ => rfl
theorem ok_law_case_right (g : Gs w K mg base) : FnQ P w K mg base (wd w K) 13 (He.ga K "_law_case_right") (fdOf K (He.ga K "_law_case_right")) ["_law_purse_here"] m_law_case_right :=
  fnQT g.F_law_case_right sc_law_case_right 13 1 rfl rfl fun c hc A outer s H E hq hr =>
    (xsCons (xsFor (fun _ _ z => z.elim) rfl (xiRange1 rfl g.b_range (xaCons xInt xaNil)) (xgName (i := 1) sc_law_case_right.nd rfl (.inl rfl)) (xsCons (xsSet (i := 2) sc_law_case_right.nd rfl (.inl rfl) (xCall (ok_law_grid g) (hr.mono (by decide)) rfl g.f_law_grid g.F_law_grid.kp (b_law_grid g) (xaCons (xVar 0) (xaCons xInt xaNil))))
    (xsCons (xsSet (i := 3) sc_law_case_right.nd rfl (.inl rfl) (xCall (ok_law_spelled g) (hr.mono (by decide)) rfl g.f_law_spelled g.F_law_spelled.kp (b_law_spelled g) (xaCons (xVar 2) xaNil)))
    (xsCons (xsPar (i := 4) (j := 5) rfl sc_law_case_right.nd rfl rfl (by decide) rfl rfl (xaCons (xMake (c := 2) rfl g.m_Pattern (ok_Pattern___init__ g) (hr.mono (by decide)) rfl g.f_Pattern (b_Pattern___init__ g) (xaCons (xVar 3) xaNil)) (xaCons (xMakeKw (c := 2) rfl g.m_Pattern (ok_Pattern___init__ g) (hr.mono (by decide)) rfl g.f_Pattern (kb_Pattern___init___text g) (xkCons (xVar 3) xkNil) (tma_len (len_cons len_nil))) xaNil)) rfl)
    (xsCons (xsSet (i := 6) sc_law_case_right.nd rfl (.inl rfl) (xH (xLst (xaCons (xProp (c := 2) rfl rfl g.k_Pattern.cls g.p_Pattern_text (ok_Pattern_text g) (hr.mono (by decide)) (b_Pattern_text g) (xVar 4)) (xaCons (xCallTy (ct_own1 (c := 2) rfl) (cr_strO (ok_Pattern___str__ g) g.h_Pattern___str__.at_ g.h_Pattern___str__.fn (b_Pattern___str__ g) (hr.mono (by decide))) rfl g.b_str bt_str (xaCons (xVar 4) xaNil)) (xaCons (xProp (c := 2) rfl rfl g.k_Pattern.cls g.p_Pattern_width (ok_Pattern_width g) (hr.mono (by decide)) (b_Pattern_width g) (xVar 4)) (xaCons (xProp (c := 2) rfl rfl g.k_Pattern.cls g.p_Pattern_height (ok_Pattern_height g) (hr.mono (by decide)) (b_Pattern_height g) (xVar 4)) (xaCons (xCmp (ot_eqO g.ok rfl g.nf_Pattern) (op_eqO (ok_Pattern___eq__ g) g.h_Pattern___eq__.at_ g.h_Pattern___eq__.fn (b_Pattern___eq__ g) (hr.mono (by decide))) (xVar 4) (xVar 5)) (xaCons (xCmp (ot_eqO g.ok rfl g.nf_Pattern) (op_neO (ok_Pattern___eq__ g) g.h_Pattern___eq__.at_ g.h_Pattern___eq__.fn (b_Pattern___eq__ g) (hr.mono (by decide)) g.ne_Pattern g.k_Pattern.mro) (xVar 4) (xVar 5)) (xaCons (xCmp (ot_eqO g.ok rfl g.nf_Pattern) (op_eqO (ok_Pattern___eq__ g) g.h_Pattern___eq__.at_ g.h_Pattern___eq__.fn (b_Pattern___eq__ g) (hr.mono (by decide))) (xVar 4) (xVar 3)) xaNil))))))))))
    (xsCons (xsIf (xtCmp ot_ne (op_neP (room80 hr)) (xCallB ct_repr (cr_repr hq (room80 hr)) rfl g.b_repr bt_repr (xaCons (xVar 6) xaNil)) (xCallB ct_repr (cr_repr hq (room80 hr)) rfl g.b_repr bt_repr (xaCons (xL (xLst (xaCons (xVar 3) (xaCons (xVar 3) (xaCons (xCallB ct_len call_len rfl g.b_len bt_len (xaCons (xIx rfl (xVar 2) xInt (fun _ _ => rfl)) xaNil)) (xaCons (xCallB ct_len call_len rfl g.b_len bt_len (xaCons (xVar 2) xaNil)) (xaCons xBl (xaCons xBl (xaCons xBl xaNil))))))))) xaNil))) (xsOne (xsRet xBl)) xsNil)
    (xsCons (xsIf (xtCmp ot_ne (op_neP (room80 hr)) (xCallB (ct_own1 (c := 2) rfl) (cr_reprO (ok_Pattern___repr__ g) g.h_Pattern___repr__.at_ g.h_Pattern___repr__.fn (b_Pattern___repr__ g) (hr.mono (by decide))) rfl g.b_repr bt_repr (xaCons (xVar 4) xaNil)) (xOp ot_add oAdd (xOp ot_add oAdd (xOp ot_add oAdd xStr (xCallTy ct_str call_str_int rfl g.b_str bt_str (xaCons (xCallB ct_len call_len rfl g.b_len bt_len (xaCons (xIx rfl (xVar 2) xInt (fun _ _ => rfl)) xaNil)) xaNil))) xStr) (xCallTy ct_str call_str_int rfl g.b_str bt_str (xaCons (xCallB ct_len call_len rfl g.b_len bt_len (xaCons (xVar 2) xaNil)) xaNil)))) (xsOne (xsRet xBl)) xsNil)
    (xsOne (xsFor (fun _ _ z => z.elim) rfl (xiRange1 rfl g.b_range (xaCons xInt xaNil)) (xgName (i := 7) sc_law_case_right.nd rfl (.inl rfl)) (xsCons (xsPar (i := 8) (j := 9) rfl sc_law_case_right.nd rfl rfl (by decide) rfl rfl (xaCons (xOp ot_sub op_sub (xCall (ok_law_roll g) (hr.mono (by decide)) rfl g.f_law_roll g.F_law_roll.kp (b_law_roll g) (xaCons (xVar 0) (xaCons xInt xaNil))) xInt) (xaCons (xOp ot_sub op_sub (xCall (ok_law_roll g) (hr.mono (by decide)) rfl g.f_law_roll g.F_law_roll.kp (b_law_roll g) (xaCons (xVar 0) (xaCons (xOp ot_pow op_pow xInt xInt) xaNil))) (xOp ot_mul oMul xInt (xOp ot_pow op_pow xInt xInt))) xaNil)) rfl)
    (xsCons (xsSet (i := 10) sc_law_case_right.nd rfl (.inl rfl) (xCall (ok_law_at g) (hr.mono (by decide)) rfl g.f_law_at g.F_law_at.kp (b_law_at g) (xaCons (xVar 2) (xaCons (xVar 8) (xaCons (xVar 9) xaNil)))))
    (xsCons (xsIf (xtCmp ot_ne (op_neP (room80 hr)) (xCallB ct_repr (cr_repr hq (room80 hr)) rfl g.b_repr bt_repr (xaCons (xL (xLst (xaCons (xMeth (c := 2) rfl rfl nm_Pattern_figure g.k_Pattern.cls g.h_Pattern_figure (ok_Pattern_figure g) (hr.mono (by decide)) (b_Pattern_figure g) (xVar 4) (xaCons (xVar 8) (xaCons (xVar 9) xaNil))) (xaCons (xMethKw (c := 2) rfl rfl nm_Pattern_figure g.k_Pattern.cls g.h_Pattern_figure (ok_Pattern_figure g) (hr.mono (by decide)) (kb_Pattern_figure_y_x g) (xVar 4) (xkCons (xVar 9) (xkCons (xVar 8) xkNil)) (tma_len (len_cons (len_cons len_nil)))) xaNil)))) xaNil)) (xCallB ct_repr (cr_repr hq (room80 hr)) rfl g.b_repr bt_repr (xaCons (xL (xLst (xaCons (xVar 10) (xaCons (xVar 10) xaNil)))) xaNil))) (xsOne (xsRet xBl)) xsNil)
    (xsCons (xsSet (i := 11) sc_law_case_right.nd rfl (.inr rfl) (xCall (ok_law_bent g) (hr.mono (by decide)) rfl g.f_law_bent g.F_law_bent.kp (b_law_bent g) (xaCons (xVar 0) (xaCons (xVar 3) xaNil))))
    (xsCons (xsSet (i := 12) sc_law_case_right.nd rfl (.inl rfl) (xCall (ok_law_read g) (hr.mono (by decide)) rfl g.f_law_read g.F_law_read.kp (b_law_read g) (xaCons (xVar 11) xaNil)))
    (xsCons (xsSet (i := 10) sc_law_case_right.nd rfl (.inl rfl) (xTup (xaCons xStr (xaCons (xVar 11) xaNil))))
    (xsCons (xsIf (xtCmp ot_ne (op_neP (room80 hr)) (xVar 12) (xTup xaNil)) (xsOne (xsSet (i := 10) sc_law_case_right.nd rfl (.inl rfl) (xIf (xtCmp ot_ne (op_neP (room80 hr)) (xCall (ok_law_wrong g) (hr.mono (by decide)) rfl g.f_law_wrong g.F_law_wrong.kp (b_law_wrong g) (xaCons (xVar 12) xaNil)) (xTup xaNil)) (xTup (xaCons xStr (xaCons (xCall (ok_law_wrong g) (hr.mono (by decide)) rfl g.f_law_wrong g.F_law_wrong.kp (b_law_wrong g) (xaCons (xVar 12) xaNil)) xaNil))) (xTup xaNil)))) xsNil)
    (xsCons (xsSet (i := 6) sc_law_case_right.nd rfl (.inl rfl) (xH (xLst (xaCons (xLamQ "_law_case_right.<locals>.<lambda>" (k := 10) rfl g.f_law_caught g.F_law_caught (b_law_caught g) sc_law_caught rfl (.inl rfl) (gv_law_caught g rfl rfl) (tabAt (p := ("_law_case_right", none)) g.F_law_case_right hc g.t_law_case_right) rfl rfl g.tbi rfl (hr.mono (by decide)) (LamX.lamS_by rfl) rfl (fun _ _ _ _ _ => rfl) (fun A outer s H E f1 c1 hr => (xMakeX (c := 2) rfl g.m_Pattern (okx_Pattern___init__ g) takesL (hr.mono (by decide)) rfl g.f_Pattern (b_Pattern___init__ g) (xaCons (xVar 11) xaNil)))) xaNil))))
    (xsCons (xsExpr (xMt mt_append' rfl F.plainAttrs_list F.slot_list_append F.type_list_append mt_append (xVar 6) (xaCons (xLamQ "_law_case_right.<locals>.<lambda>" (k := 10) rfl g.f_law_caught g.F_law_caught (b_law_caught g) sc_law_caught rfl (.inl rfl) (gv_law_caught g rfl rfl) (tabAt (p := ("_law_case_right", none)) g.F_law_case_right hc g.t_law_case_right) rfl rfl g.tbi rfl (hr.mono (by decide)) (LamX.lamS_by rfl) rfl (fun _ _ _ _ _ => rfl) (fun A outer s H E f1 c1 hr => (xMakeKwX (c := 2) rfl g.m_Pattern (okx_Pattern___init__ g) takesL (hr.mono (by decide)) rfl g.f_Pattern (kb_Pattern___init___text g) (xkCons (xVar 11) xkNil) (tma_len (len_cons len_nil))))) xaNil)))
    (xsOne (xsIf (xtW (xwOr (xtNot (xtVal (xCall (ok_law_same 12 g) (hr.mono (by decide)) rfl g.f_law_same g.F_law_same.kp (b_law_same g) (xaCons (xVar 6) (xaCons (xL (xLst (xaCons (xVar 10) (xaCons (xVar 10) xaNil)))) xaNil))))) (xwOr1 (xtW (xwAnd (xtCmp ot_eqE (op_eqE (room80 hr)) (xVar 10) (xTup xaNil)) (xwAnd1 (xtCmp ot_ne (op_neP (room80 hr)) (xCmp (ot_eqO g.ok rfl g.nf_Pattern) (op_eqO (ok_Pattern___eq__ g) g.h_Pattern___eq__.at_ g.h_Pattern___eq__.fn (b_Pattern___eq__ g) (hr.mono (by decide))) (xMake (c := 2) rfl g.m_Pattern (ok_Pattern___init__ g) (hr.mono (by decide)) rfl g.f_Pattern (b_Pattern___init__ g) (xaCons (xVar 11) xaNil)) (xVar 4)) (xCmp ot_eq (op_eqP (room80 hr)) (xVar 11) (xVar 3))))))))) (xsOne (xsRet xBl)) xsNil))))))))))))))))))))
    (xsOne (xsRet xBl)))
theorem sc_law_cell : FnScope ["_law_script", "_law_k", "_law_mixed", "_law_part"] ["_law_script", "_law_k"] (defScope (top 16)) := ⟨rfl, rfl, rfl, by decide +kernel, rfl, by decide +kernel, by decide +kernel⟩
theorem b_law_cell (g : Gs w K mg base) : Binds K (fdOf K (He.ga K "_law_cell")) ["_law_script", "_law_k"] [] := g.F_law_cell.bindsN fun _ _ _ _ _ _ us hl => match us, hl with | [_, _], _ => rfl
theorem ok_law_cell (g : Gs w K mg base) : FnOk P w K mg base CX0 1 (He.ga K "_law_cell") (fdOf K (He.ga K "_law_cell")) ["_law_script", "_law_k"] (spM (wd w K) m_law_cell) :=
  fnM g.F_law_cell sc_law_cell 4 2 rfl rfl fun cdv A outer s H E hr =>
    (xsCons (xsIf (xtCmp ot_lt (oLt (room80 hr)) (xVar 1) (xCallB ct_len call_len rfl g.b_len bt_len (xaCons (xVar 0) xaNil))) (xsOne (xsRet (xIx rfl (xVar 0) (xVar 1) (fun _ _ => rfl)))) xsNil)
    (xsCons (xsSet (i := 2) sc_law_cell.nd rfl (.inl rfl) (xOp ot_mod op_mod (xCallTy ct_int oInt rfl g.b_int bt_int (xaCons (xOp ot_mul oMul xInt (xOp ot_add oAdd (xOp ot_add oAdd (xOp ot_mul oMul (xVar 1) (xVar 1)) (xOp ot_mul oMul xInt (xVar 1))) xInt)) xaNil)) xInt))
    (xsCons (xsFor (fun _ _ z => z.elim) rfl (xiSeq rfl (xSl rfl (xVar 0) xoNo (xoSome xInt))) (xgName (i := 3) sc_law_cell.nd rfl (.inl rfl)) (xsOne (xsSet (i := 2) sc_law_cell.nd rfl (.inl rfl) (xOp ot_mod op_mod (xCallTy ct_int oInt rfl g.b_int bt_int (xaCons (xOp ot_add oAdd (xOp ot_add oAdd (xOp ot_mul oMul (xVar 2) xInt) (xOp ot_mul oMul (xVar 3) xInt)) xInt) xaNil)) xInt))))
    (xsOne (xsRet (xVar 2))))))
theorem sc_law_purse : FnScope ["_law_cell_here"] ["_law_cell_here"] (defScope (top 17)) := ⟨rfl, rfl, rfl, by decide +kernel, rfl, by decide +kernel, by decide +kernel⟩
theorem b_law_purse (g : Gs w K mg base) : Binds K (fdOf K (He.ga K "_law_purse")) ["_law_cell_here"] [] := g.F_law_purse.bindsN fun _ _ _ _ _ _ us hl => match us, hl with | [_], _ => rfl
theorem ok_law_purse (g : Gs w K mg base) : FnOk P w K mg base CX0 1 (He.ga K "_law_purse") (fdOf K (He.ga K "_law_purse")) ["_law_cell_here"] (spM (wd w K) m_law_purse) :=
  fnM g.F_law_purse sc_law_purse 1 1 rfl rfl fun cdv A outer s H E hr =>
    (xsOne (xsRet (xH (xLst (xaCons (xIf (xtW (xwOr (xtCmp ot_lt (oLt (room80 hr)) (xVar 0) xInt) (xwOr1 (xtCmp ot_ge (oGe (room80 hr)) (xVar 0) (xOp ot_pow op_pow xInt xInt))))) (xCallB ct_abs call_abs rfl g.b_abs bt_abs (xaCons (xVar 0) xaNil)) xInt) (xaCons (xOp ot_mod op_mod (xCallTy ct_int oInt rfl g.b_int bt_int (xaCons (xOp ot_add oAdd (xOp ot_mul oMul (xVar 0) xInt) xInt) xaNil)) xInt) (xaCons xInt xaNil)))))))
theorem sc_law : FnScope ["_law_script", "_law_k"] ["_law_script"] (defScope (top 30)) := ⟨rfl, rfl, rfl, by decide +kernel, rfl, by decide +kernel, by decide +kernel⟩
theorem ok_law (g : Gs w K mg base) : FnQ P w K mg base (wd w K) 14 (He.ga K "law") (fdOf K (He.ga K "law")) ["_law_script"] m_law :=
  fnQ g.F_law sc_law 2 1 rfl rfl fun cdv A outer s H E hq hr =>
    (xsCons (xsFor (fun _ _ z => z.elim) rfl (xiRange1 rfl g.b_range (xaCons (xCallB ct_max2 (call_max2 rfl) rfl g.b_max bt_max (xaCons xInt (xaCons (xCallB ct_min2 (call_min2 rfl) rfl g.b_min bt_min (xaCons (xCallB ct_len call_len rfl g.b_len bt_len (xaCons (xVar 0) xaNil)) (xaCons xInt xaNil))) xaNil))) xaNil)) (xgName (i := 1) sc_law.nd rfl (.inl rfl)) (xsOne (xsIf (xtNot (xtVal (xCallQ (ok_law_case_right g) hq (hr.mono (by decide)) rfl g.f_law_case_right g.F_law_case_right.kp (b_law_case_right g) (xaCons (xCall (ok_law_purse g) (hr.mono (by decide)) rfl g.f_law_purse g.F_law_purse.kp (b_law_purse g) (xaCons (xCall (ok_law_cell g) (hr.mono (by decide)) rfl g.f_law_cell g.F_law_cell.kp (b_law_cell g) (xaCons (xVar 0) (xaCons (xVar 1) xaNil))) xaNil)) xaNil)))) (xsOne (xsRet xBl)) xsNil)))
    (xsOne (xsRet xBl)))
end
end K31
set_option Elab.async false
set_option linter.all false
set_option maxRecDepth 100000
set_option maxHeartbeats 4000000
namespace K31
open K33 hiding m_law_case_right s_law_case_right
open K34
open PySem PySem.Spec PyProof.Rows L2 TL
theorem gs {w : World} {K : PySem.W.Frag} {h : Heap} {mg : Str → Option Value} (X : K.In h) (G : h.Ns mainGlobals mg) (c : He.SaysX fa fn ts tf ex w h K) (cp : prs.map (prW K) = prs.map PrD.val) : GsA w K mg := by
  have cd := c.t.d
  have e_cf_Pattern : (cfB K (He.ga K "Pattern")) = true := List.all_eq_true.mp c.more _ (List.mem_of_getElem? (i := 0) rfl)
  have e_i_Pattern : (isiChk cl K (.ref (He.ga K "Pattern")) (.o 2)) = true := List.all_eq_true.mp c.more _ (List.mem_of_getElem? (i := 1) rfl)
  have e_i_bool : (isiChk cl K (.type "bool") (.b "bool")) = true := List.all_eq_true.mp c.more _ (List.mem_of_getElem? (i := 2) rfl)
  have e_i_int : (isiChk cl K (.type "int") (.b "int")) = true := List.all_eq_true.mp c.more _ (List.mem_of_getElem? (i := 3) rfl)
  have e_i_list : (isiChk cl K (.type "list") (.b "list")) = true := List.all_eq_true.mp c.more _ (List.mem_of_getElem? (i := 4) rfl)
  have e_i_str : (isiChk cl K (.type "str") (.b "str")) = true := List.all_eq_true.mp c.more _ (List.mem_of_getElem? (i := 5) rfl)
  have e_i_tuple : (isiChk cl K (.type "tuple") (.b "tuple")) = true := List.all_eq_true.mp c.more _ (List.mem_of_getElem? (i := 6) rfl)
  have e_d_SHIFTS : (kdB K "SHIFTS" kv_SHIFTS) = true := List.all_eq_true.mp c.more _ (List.mem_of_getElem? (i := 7) rfl)
  have e_nf_Pattern : (nfChk cl K (He.ga K "Pattern")) = true := List.all_eq_true.mp c.more _ (List.mem_of_getElem? (i := 8) rfl)
  have e_ne_Pattern : (neB K (He.ga K "Pattern")) = true := List.all_eq_true.mp c.more _ (List.mem_of_getElem? (i := 9) rfl)
  have e_x_InvalidText : (exB K "InvalidText" "given") = true := List.all_eq_true.mp c.more _ (List.mem_of_getElem? (i := 10) rfl)
  have e_x_NotMutual : (exAB K "NotMutual" "place") = true := List.all_eq_true.mp c.more _ (List.mem_of_getElem? (i := 11) rfl)
  have e_ct_law_caught : (catB K [(0, "InvalidText"), (14, "NotMutual")]) = true := List.all_eq_true.mp c.more _ (List.mem_of_getElem? (i := 12) rfl)
  have e_tabs : (decide ((tl.map fun p => (He.cT K p.2).2).Nodup)) = true := List.all_eq_true.mp c.more _ (List.mem_of_getElem? (i := 13) rfl)
  have e_pr_Pattern_text : (prB K pr_Pattern_text) = true := List.all_eq_true.mp c.more _ (List.mem_of_getElem? (i := 14) rfl)
  have e_pr_Pattern_height : (prB K pr_Pattern_height) = true := List.all_eq_true.mp c.more _ (List.mem_of_getElem? (i := 15) rfl)
  have e_pr_Pattern_width : (prB K pr_Pattern_width) = true := List.all_eq_true.mp c.more _ (List.mem_of_getElem? (i := 16) rfl)
  have k_Pattern : CF K (He.ga K "Pattern") := cf_of (cd.fact 35 (f := .cls "Pattern") rfl) e_cf_Pattern
  exact {
    b_abs := He.free_ok X G (cd.fact 0 (f := .free "abs") rfl)
    b_all := He.free_ok X G (cd.fact 1 (f := .free "all") rfl)
    b_bool := He.free_ok X G (cd.fact 2 (f := .free "bool") rfl)
    b_divmod := He.free_ok X G (cd.fact 3 (f := .free "divmod") rfl)
    b_enumerate := He.free_ok X G (cd.fact 4 (f := .free "enumerate") rfl)
    b_int := He.free_ok X G (cd.fact 5 (f := .free "int") rfl)
    b_isinstance := He.free_ok X G (cd.fact 6 (f := .free "isinstance") rfl)
    b_len := He.free_ok X G (cd.fact 7 (f := .free "len") rfl)
    b_list := He.free_ok X G (cd.fact 8 (f := .free "list") rfl)
    b_max := He.free_ok X G (cd.fact 9 (f := .free "max") rfl)
    b_min := He.free_ok X G (cd.fact 10 (f := .free "min") rfl)
    b_range := He.free_ok X G (cd.fact 11 (f := .free "range") rfl)
    b_repr := He.free_ok X G (cd.fact 12 (f := .free "repr") rfl)
    b_str := He.free_ok X G (cd.fact 13 (f := .free "str") rfl)
    b_tuple := He.free_ok X G (cd.fact 14 (f := .free "tuple") rfl)
    p_Pattern_text := (pr_ok (pr_at cp (i := 0) (d := pr_Pattern_text) rfl) e_pr_Pattern_text).2
    F_Pattern_text := let ⟨⟨_, z⟩, _⟩ := pr_ok (pr_at cp (i := 0) (d := pr_Pattern_text) rfl) e_pr_Pattern_text; funD_at z
    p_Pattern_height := (pr_ok (pr_at cp (i := 1) (d := pr_Pattern_height) rfl) e_pr_Pattern_height).2
    F_Pattern_height := let ⟨⟨_, z⟩, _⟩ := pr_ok (pr_at cp (i := 1) (d := pr_Pattern_height) rfl) e_pr_Pattern_height; funD_at z
    p_Pattern_width := (pr_ok (pr_at cp (i := 2) (d := pr_Pattern_width) rfl) e_pr_Pattern_width).2
    F_Pattern_width := let ⟨⟨_, z⟩, _⟩ := pr_ok (pr_at cp (i := 2) (d := pr_Pattern_width) rfl) e_pr_Pattern_width; funD_at z
    f_figure_at := He.glo_ok X G (cd.fact 15 (f := .glo "figure_at") rfl)
    F_figure_at := let ⟨_, z⟩ := cd.def_ 0 (d := d_figure_at) rfl; funD_at z
    f_first_wrong := He.glo_ok X G (cd.fact 16 (f := .glo "first_wrong") rfl)
    F_first_wrong := let ⟨_, z⟩ := cd.def_ 1 (d := d_first_wrong) rfl; funD_at z
    f_rows_in := He.glo_ok X G (cd.fact 17 (f := .glo "rows_in") rfl)
    F_rows_in := let ⟨_, z⟩ := cd.def_ 2 (d := d_rows_in) rfl; funD_at z
    F_Pattern___init__ := let ⟨_, z⟩ := cd.def_ 3 (d := d_Pattern___init__) rfl; funD_at z
    F_Pattern___eq__ := let ⟨_, z⟩ := cd.def_ 4 (d := d_Pattern___eq__) rfl; funD_at z
    F_Pattern___repr__ := let ⟨_, z⟩ := cd.def_ 5 (d := d_Pattern___repr__) rfl; funD_at z
    F_Pattern___str__ := let ⟨_, z⟩ := cd.def_ 6 (d := d_Pattern___str__) rfl; funD_at z
    f_is_integer := He.glo_ok X G (cd.fact 18 (f := .glo "is_integer") rfl)
    F_is_integer := let ⟨_, z⟩ := cd.def_ 7 (d := d_is_integer) rfl; funD_at z
    F_Pattern_figure := let ⟨_, z⟩ := cd.def_ 8 (d := d_Pattern_figure) rfl; funD_at z
    f_law_at := He.glo_ok X G (cd.fact 19 (f := .glo "_law_at") rfl)
    F_law_at := let ⟨_, z⟩ := cd.def_ 9 (d := d_law_at) rfl; funD_at z
    f_law_roll := He.glo_ok X G (cd.fact 20 (f := .glo "_law_roll") rfl)
    F_law_roll := let ⟨_, z⟩ := cd.def_ 10 (d := d_law_roll) rfl; funD_at z
    f_law_pick := He.glo_ok X G (cd.fact 21 (f := .glo "_law_pick") rfl)
    F_law_pick := let ⟨_, z⟩ := cd.def_ 11 (d := d_law_pick) rfl; funD_at z
    f_law_bent := He.glo_ok X G (cd.fact 22 (f := .glo "_law_bent") rfl)
    F_law_bent := let ⟨_, z⟩ := cd.def_ 12 (d := d_law_bent) rfl; funD_at z
    f_law_caught := He.glo_ok X G (cd.fact 23 (f := .glo "_law_caught") rfl)
    F_law_caught := let ⟨_, z⟩ := cd.def_ 13 (d := d_law_caught) rfl; funD_at z
    f_law_shift := He.glo_ok X G (cd.fact 24 (f := .glo "_law_shift") rfl)
    F_law_shift := let ⟨_, z⟩ := cd.def_ 14 (d := d_law_shift) rfl; funD_at z
    f_law_grid := He.glo_ok X G (cd.fact 25 (f := .glo "_law_grid") rfl)
    F_law_grid := let ⟨_, z⟩ := cd.def_ 15 (d := d_law_grid) rfl; funD_at z
    f_law_read := He.glo_ok X G (cd.fact 26 (f := .glo "_law_read") rfl)
    F_law_read := let ⟨_, z⟩ := cd.def_ 16 (d := d_law_read) rfl; funD_at z
    f_law_same := He.glo_ok X G (cd.fact 27 (f := .glo "_law_same") rfl)
    F_law_same := let ⟨_, z⟩ := cd.def_ 17 (d := d_law_same) rfl; funD_at z
    f_law_spelled := He.glo_ok X G (cd.fact 28 (f := .glo "_law_spelled") rfl)
    F_law_spelled := let ⟨_, z⟩ := cd.def_ 18 (d := d_law_spelled) rfl; funD_at z
    f_law_wrong := He.glo_ok X G (cd.fact 29 (f := .glo "_law_wrong") rfl)
    F_law_wrong := let ⟨_, z⟩ := cd.def_ 19 (d := d_law_wrong) rfl; funD_at z
    f_law_case_right := He.glo_ok X G (cd.fact 30 (f := .glo "_law_case_right") rfl)
    F_law_case_right := let ⟨_, z⟩ := cd.def_ 20 (d := d_law_case_right) rfl; funD_at z
    f_law_cell := He.glo_ok X G (cd.fact 31 (f := .glo "_law_cell") rfl)
    F_law_cell := let ⟨_, z⟩ := cd.def_ 21 (d := d_law_cell) rfl; funD_at z
    f_law_purse := He.glo_ok X G (cd.fact 32 (f := .glo "_law_purse") rfl)
    F_law_purse := let ⟨_, z⟩ := cd.def_ 22 (d := d_law_purse) rfl; funD_at z
    f_law := He.glo_ok X G (cd.fact 33 (f := .glo "law") rfl)
    F_law := let ⟨_, z⟩ := cd.def_ 23 (d := d_law) rfl; funD_at z
    F_InvalidText___init__ := let ⟨_, z⟩ := cd.def_ 24 (d := d_InvalidText___init__) rfl; funD_at z
    F_NotMutual___init__ := let ⟨_, z⟩ := cd.def_ 25 (d := d_NotMutual___init__) rfl; funD_at z
    f_Pattern := He.glo_ok X G (cd.fact 34 (f := .glo "Pattern") rfl)
    k_Pattern := k_Pattern
    m_Pattern := He.mkr_ok (cd.fact 36 (f := .mkr "Pattern") rfl)
    ok := wd_ok (fun q hq => by
      simp only [cl, List.mem_cons, List.not_mem_nil, or_false] at hq
      subst hq
      exact k_Pattern)
    f_InvalidText := He.glo_ok X G (cd.fact 37 (f := .glo "InvalidText") rfl)
    x_InvalidText := exB_ok e_x_InvalidText
    f_NotMutual := He.glo_ok X G (cd.fact 38 (f := .glo "NotMutual") rfl)
    x_NotMutual := exAB_ok e_x_NotMutual
    ct_law_caught := catB_ok e_ct_law_caught
    tbi := tbInj_of (of_decide_eq_true e_tabs)
    n_Pattern_rows := He.noat_ok (cd.fact 39 (f := .noat "Pattern" "rows") rfl)
    n_Pattern_written := He.noat_ok (cd.fact 40 (f := .noat "Pattern" "written") rfl)
    h_Pattern___eq__ := He.meth_ok (cd.fact 41 (f := .meth "Pattern" "__eq__") rfl)
    h_Pattern___repr__ := He.meth_ok (cd.fact 42 (f := .meth "Pattern" "__repr__") rfl)
    h_Pattern___str__ := He.meth_ok (cd.fact 43 (f := .meth "Pattern" "__str__") rfl)
    h_Pattern_figure := He.meth_ok (cd.fact 44 (f := .meth "Pattern" "figure") rfl)
    nf_Pattern := nf_of e_nf_Pattern
    ne_Pattern := ne_of e_ne_Pattern
    i_Pattern := isi_of e_i_Pattern
    i_bool := isi_of e_i_bool
    i_int := isi_of e_i_int
    i_list := isi_of e_i_list
    i_str := isi_of e_i_str
    i_tuple := isi_of e_i_tuple
    c_MOST_SIDE := He.int_ok X G (cd.fact 45 (f := .int "MOST_SIDE" 12) rfl)
    c_SHIFTS := He.glo_ok X G (cd.fact 46 (f := .glo "SHIFTS") rfl)
    d_SHIFTS := kd_of (c.t.tab 0 (t := ((fun K => He.ga K "SHIFTS"), ["6", "4", "8", "2", "9", "1", "7", "3"])) rfl) e_d_SHIFTS }
end K31
def K31.tlA (K : PySem.W.Frag) : List (PySem.Str × PySem.Addr) := K31.tl.map fun p => (p.1, (He.cT K p.2).2)
open PySem PySem.W PySem.Calls PyProof.Rows
set_option maxHeartbeats 0 in
theorem K31.holds_of (pure_law : ∀ ns : List Int, ns.length ≤ 63 → ∃ h', K31.m_law [.arg (ns.map TL.T.int)] [] = .ok (.bl true) h') : PySem.Challenge.rw_pairheld_k31_whole_patterns_made.Holds := by
  w_on; o_law
  refine HandSHeadRun.head_any (r := OpenLaw.row PySem.Challenge.rw_pairheld_k31_whole_patterns_made) (q := view (OpenLaw.row PySem.Challenge.rw_pairheld_k31_whole_patterns_made).prog [30]) (H := K31.hk) (ob := K31.ob) (M := 8000) (loose := K31.lo) (d := HandSHeadRun.topDef (OpenLaw.row PySem.Challenge.rw_pairheld_k31_whole_patterns_made).prog 30) (kwd := []) K31.ob_eq
    (by kernel_rfl) (fun s => by kernel_rfl) K31.run (by kernel_rfl) (by kernel_rfl) (by kernel_rfl) (by rfl) (by first | assumption | decide +kernel) (by decide +kernel) ⟨rfl, rfl, rfl, rfl, rfl, by decide +kernel⟩ ?hw ?hc
  case hw => w_witness2
  case hc =>
    refine TL.walkQT (l := PySem.Challenge.rw_pairheld_k31_whole_patterns_made) (n := 63) (k := 14) (x := "_law_script") rfl (by decide) (by kernel_rfl) ⟨rfl, by decide, by decide⟩ ?_
    rintro w mg fa h ⟨K, KX, c, cp⟩ G named
    have e1 : (HandSHeadRun.topDef (OpenLaw.row PySem.Challenge.rw_pairheld_k31_whole_patterns_made).prog 30).name = ("law" : PySem.Str) := by kernel_rfl
    have gA := K31.gs KX G c cp
    have e2 : fa = He.ga K "law" := by
      rw [e1, gA.f_law] at named
      cases named
      rfl
    subst e2
    have b := L2.FunD.bindsA (ps := ["_law_script"]) gA.F_law fun _ _ _ _ _ _ us hl => match us, hl with | [_], _ => rfl
    refine ⟨K, _, K31.wd w K, K31.m_law, K31.tlA K, K31.tf.map (He.cT K), KX, rfl, ⟨rfl, fun q P e => TL.tb_mem e⟩, ?_, fun s v => b s [v] rfl, pure_law, fun base hB hG hT => K31.ok_law (base := base) ⟨gA, hT _ (List.mem_of_getElem? (i := 0) rfl)⟩⟩
    · intro p hp
      obtain ⟨q, hq, rfl⟩ := List.mem_map.mp hp
      exact ⟨c.empty q hq, c.out q hq, c.hd q hq⟩
theorem PySem.Challenge.cw_pairheld_k31_whole_patterns_made_holds : PySem.Challenge.rw_pairheld_k31_whole_patterns_made.Holds := by
  exact K31.holds_of K31.pure_law
