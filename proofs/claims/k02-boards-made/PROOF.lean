import PyProof.Rows.All
import Wide.All
import OpenK.AllK
import Wide.FinOn
import HandS.ForMost
import HandS.Defaults
import HandS.Property
import HandS.Zip
import HandS.Deep
import HandS.IsInst
import HandS.Conv
import HandS.FStr
import HandS.WideBits
import HandS.HeadEnd
import HandS.HeadHook1
import HandS.HeadHook2
import HandS.HeadHook3
import HandS.HeadHook4
import HandS.Head0
import HandS.Head1
import HandS.Head2
import KE.SortData
import KE.SortKeyHeap
import KE.DataFind
import KE.DataCmp
import KE.Datum
import KE.DatumIndex
import HandS.TupAny
import HandS.Text
import HandS.Style
import HandS.Star
import KE.KDictWalk
import HandS.MakeKwOnly
import PyProof.ReprRoads
import PyProof.FitsInt
import PyProof.StrLawsRepr
import HandS.TupSets
import HandS.TryOnly
import KE.GoesMore
import HandS.Wide
import PyProof.StrLawsIn
import PyProof.Rows.StrSplitAre
import PyProof.Rows.StrItems
import KE.KCallOwn
import PyProof.InstNe
import HandS.RaiseMore
import HandS.Small
import PyProof.TupleOfSeq
import KE.GoesNew
import Lean
import PyProof.Rows.StrSplitCount
import PyProof.Rows.RegReprOcc
import PySem.Challenge.RW_pairheld_k02_boards_made
set_option Elab.async false
set_option linter.all false
set_option maxRecDepth 100000
set_option maxHeartbeats 4000000
namespace TL
open PySem PySem.Spec L2
abbrev St := L2.St

/-- tree values -/
inductive T where
  | non | bl (b : Bool) | int (i : Int) | str (s : Str)
  | tup (ts : List T) | lst (ts : List T)
  | obj (c : Nat) (fs : List T)
  | ref (n : Nat)
  | arg (ts : List T)
  deriving Inhabited

/-- what stands in the small heap -/
inductive VO where
  | lst (ts : List T)
  | ins (c : Nat) (fs : List T)
  | dct (kvs : List (T × T))
  deriving Inhabited
abbrev VH := List VO

inductive Res (α : Type) where
  | ok (a : α) (h : VH)
  | bad
/-- behind a statement -/
inductive Out where
  | nx (τ : List (Option T)) (h : VH)
  | rt (t : T) (h : VH)
  | bk (τ : List (Option T)) (h : VH)
  | ct (τ : List (Option T)) (h : VH)
  | bad
abbrev TS_ := List (Option T)
abbrev ME := TS_ → VH → Res T
abbrev MA := TS_ → VH → Res (List T)
abbrev MB := TS_ → VH → Res Bool
abbrev MS := TS_ → VH → Out

/-- which addresses may change: those of the small heap by number, those that are being built -/
structure Rh where
  ix : List Addr
  bn : List Addr
def Rh.out (ρ : Rh) (a : Addr) : Prop := a ∉ ρ.ix ∧ a ∉ ρ.bn
def Rh.push (ρ : Rh) (p : Addr) : Rh := ⟨ρ.ix ++ [p], ρ.bn⟩
def Rh.ban (ρ : Rh) (p : Addr) : Rh := ⟨ρ.ix, p :: ρ.bn⟩
/-- the world: the written part, the classes by number, the names of their attributes -/
structure Wd where
  K : PySem.W.Frag
  cm : Nat → Option Addr
  fn : Nat → List Str

def KL (K : PySem.W.Frag) (a : Addr) (xs : List V) : Prop := ∃ (o : Obj) (its : Array Value) (n : Nat), K.lookup a = some o ∧ o.cls = .type "list" ∧ o.dict = none ∧ o.data = .seq its n ∧ its.size ≤ sizeLine ∧ Vals xs its.toList
def KT (K : PySem.W.Frag) (a : Addr) (xs : List V) : Prop := ∃ (o : Obj) (its : Array Value) (n : Nat), K.lookup a = some o ∧ o.cls = .type "tuple" ∧ o.data = .seq its n ∧ its.size ≤ sizeLine ∧ Vals xs its.toList
def LstAt (Y : Wd) (ρ : Rh) (H : Hp) (a : Addr) (xs : List V) : Prop := xs.length ≤ sizeLine ∧ ρ.out a ∧ H a = some (.lst xs)
def ArgAt (Y : Wd) (ρ : Rh) (H : Hp) (a : Addr) (xs : List V) : Prop := xs.length ≤ sizeLine ∧ ((ρ.out a ∧ Rd H a (.lst xs)) ∨ KL Y.K a xs)
def TupAt (Y : Wd) (ρ : Rh) (H : Hp) (a : Addr) (xs : List V) : Prop := xs.length ≤ sizeLine ∧ ((ρ.out a ∧ Rd H a (.tup xs)) ∨ KT Y.K a xs)
theorem LstAt.sq {Y : Wd} {ρ : Rh} {H : Hp} {a : Addr} {xs : List V} (h : LstAt Y ρ H a xs) : SqL Y.K H a xs := .inl (.inl h.2.2)
theorem ArgAt.sq {Y : Wd} {ρ : Rh} {H : Hp} {a : Addr} {xs : List V} (h : ArgAt Y ρ H a xs) : SqL Y.K H a xs := h.2.elim (fun z => .inl z.2) .inr
theorem TupAt.sq {Y : Wd} {ρ : Rh} {H : Hp} {a : Addr} {xs : List V} (h : TupAt Y ρ H a xs) : SqT Y.K H a xs := h.2.elim (fun z => .inl z.2) .inr

mutual
/-- v represents t -/
inductive Rp (Y : Wd) (ρ : Rh) (H : Hp) : T → V → Prop
  | non : Rp Y ρ H .non .non
  | bl (b : Bool) : Rp Y ρ H (.bl b) (.bl b)
  | int (i : Int) : Rp Y ρ H (.int i) (.int i)
  | str {x : Str} : x.length ≤ 1000000 → Rp Y ρ H (.str x) (.str x)
  | tup {a : Addr} {vs : List V} {ts : List T} : TupAt Y ρ H a vs → Rps Y ρ H ts vs → Rp Y ρ H (.tup ts) (.ref a)
  | lst {a : Addr} {vs : List V} {ts : List T} : LstAt Y ρ H a vs → Rps Y ρ H ts vs → Rp Y ρ H (.lst ts) (.ref a)
  | obj {c : Nat} {a C dx : Addr} {vfs : List (Str × V)} {fs : List T} : Y.cm c = some C → ρ.out a → H a = some (.ins C dx vfs) → vfs.map (·.1) = (Y.fn c).take fs.length → Rps Y ρ H fs (vfs.map (·.2)) → Rp Y ρ H (.obj c fs) (.ref a)
  | ref {n : Nat} {a : Addr} : ρ.ix[n]? = some a → Rp Y ρ H (.ref n) (.ref a)
  | arg {a : Addr} {vs : List V} {ts : List T} : ArgAt Y ρ H a vs → Rps Y ρ H ts vs → Rp Y ρ H (.arg ts) (.ref a)
inductive Rps (Y : Wd) (ρ : Rh) (H : Hp) : List T → List V → Prop
  | nil : Rps Y ρ H [] []
  | cons {t : T} {v : V} {ts : List T} {vs : List V} : Rp Y ρ H t v → Rps Y ρ H ts vs → Rps Y ρ H (t :: ts) (v :: vs)
end

/-- the heap has gone on: new tracked things, changes at ρ alone; what is newly banned was not tracked -/
structure EvR (ρ : Rh) (H : Hp) (ρ' : Rh) (H' : Hp) : Prop where
  more : ∃ m, ρ'.ix = ρ.ix ++ m ∧ ∀ p ∈ m, H p = none
  bnr : ∀ a ∈ ρ'.bn, a ∈ ρ.bn ∨ H a = none
  keep : ∀ b o, H b = some o → b ∉ ρ.ix → H' b = some o
  there : ∀ b, H b ≠ none → H' b ≠ none
structure Ev (ρ : Rh) (H : Hp) (ρ' : Rh) (H' : Hp) : Prop extends EvR ρ H ρ' H' where
  bn : ρ'.bn = ρ.bn
theorem Ev.mk' {ρ ρ' : Rh} {H H' : Hp} (more : ∃ m, ρ'.ix = ρ.ix ++ m ∧ ∀ p ∈ m, H p = none) (bn : ρ'.bn = ρ.bn) (keep : ∀ b o, H b = some o → b ∉ ρ.ix → H' b = some o) (there : ∀ b, H b ≠ none → H' b ≠ none) : Ev ρ H ρ' H' :=
  ⟨⟨more, fun a ha => .inl (bn ▸ ha), keep, there⟩, bn⟩
theorem Ev.refl {ρ : Rh} {H : Hp} : Ev ρ H ρ H := .mk' ⟨[], by simp⟩ rfl (fun _ _ e _ => e) (fun _ e => e)
theorem EvR.nix {ρ ρ' : Rh} {H H' : Hp} (e : EvR ρ H ρ' H') {a : Addr} (h : a ∉ ρ.ix) (ha : H a ≠ none) : a ∉ ρ'.ix := by
  obtain ⟨m, em, hm⟩ := e.more
  intro z
  rw [em] at z
  rcases List.mem_append.mp z with z | z
  · exact h z
  · exact ha (hm a z)
theorem EvR.notin {ρ ρ' : Rh} {H H' : Hp} (e : EvR ρ H ρ' H') {a : Addr} (h : ρ.out a) (ha : H a ≠ none) : ρ'.out a := ⟨e.nix h.1 ha, fun z => (e.bnr a z).elim h.2 ha⟩
theorem EvR.get {ρ ρ' : Rh} {H H' : Hp} (e : EvR ρ H ρ' H') {n : Nat} {a : Addr} (h : ρ.ix[n]? = some a) : ρ'.ix[n]? = some a := by
  obtain ⟨m, em, hm⟩ := e.more
  rw [em, List.getElem?_append_left (List.getElem?_eq_some_iff.mp h).1]
  exact h
theorem EvR.fresh {ρ ρ' : Rh} {H H' : Hp} (e : EvR ρ H ρ' H') {p : Addr} (h : H' p = none) : H p = none := by
  cases q : H p with
  | none => rfl
  | some o => exact absurd h (e.there p (by rw [q]; simp))
theorem EvR.trans {ρ ρ1 ρ2 : Rh} {H H1 H2 : Hp} (a : EvR ρ H ρ1 H1) (b : EvR ρ1 H1 ρ2 H2) : EvR ρ H ρ2 H2 := by
  refine ⟨?_, fun c hc => (b.bnr c hc).elim (a.bnr c) (fun z => .inr (a.fresh z)), fun c o e n => b.keep c o (a.keep c o e n) (a.nix n (by rw [e]; simp)), fun c e => b.there c (a.there c e)⟩
  obtain ⟨m1, e1, h1⟩ := a.more
  obtain ⟨m2, e2, h2⟩ := b.more
  refine ⟨m1 ++ m2, by rw [e2, e1, List.append_assoc], fun p hp => ?_⟩
  rcases List.mem_append.mp hp with z | z
  · exact h1 p z
  · exact a.fresh (h2 p z)
theorem Ev.trans {ρ ρ1 ρ2 : Rh} {H H1 H2 : Hp} (a : Ev ρ H ρ1 H1) (b : Ev ρ1 H1 ρ2 H2) : Ev ρ H ρ2 H2 := ⟨a.toEvR.trans b.toEvR, b.bn.trans a.bn⟩
theorem EvR.ban {ρ ρ' : Rh} {H H' : Hp} (e : EvR ρ H ρ' H') {p : Addr} (h : H p = none) : EvR ρ H (ρ'.ban p) H' := ⟨e.more, fun a ha => (List.mem_cons.mp ha).elim (fun z => .inr (z ▸ h)) (e.bnr a), e.keep, e.there⟩
/-- one thing more is tracked -/
theorem Ev.new {ρ : Rh} {H : Hp} {p : Addr} {o : HO} (h : H p = none) : Ev ρ H ρ (upd H p o) :=
  .mk' ⟨[], by simp⟩ rfl (fun b u e _ => by rw [upd_ne (ne_of_none e h)]; exact e) (fun b e => by
    by_cases z : b = p
    · rw [z, upd_same]; simp
    · rw [upd_ne z]; exact e)
/-- and is one that may change -/
theorem Ev.newρ {ρ : Rh} {H : Hp} {p : Addr} {o : HO} (h : H p = none) : Ev ρ H (ρ.push p) (upd H p o) :=
  .mk' ⟨[p], rfl, fun q hq => by rw [List.mem_singleton.mp hq]; exact h⟩ rfl (Ev.new (ρ := ρ) h).keep (Ev.new (ρ := ρ) h).there
/-- a change at ρ -/
theorem Ev.write {ρ : Rh} {H : Hp} {p : Addr} {o : HO} (h : p ∈ ρ.ix) : Ev ρ H ρ (upd H p o) :=
  .mk' ⟨[], by simp⟩ rfl (fun b u e n => by rw [upd_ne (fun z => n (by rw [z]; exact h))]; exact e) (fun b e => by
    by_cases z : b = p
    · rw [z, upd_same]; simp
    · rw [upd_ne z]; exact e)
theorem Rd.some {H : Hp} {a : Addr} {u : HO} (r : Rd H a u) : H a ≠ none := by
  rcases r with r | ⟨o, r⟩ <;> rw [r] <;> simp
theorem Rd.ev {ρ ρ' : Rh} {H H' : Hp} (e : EvR ρ H ρ' H') {a : Addr} {u : HO} (h : ρ.out a) (r : Rd H a u) : ρ'.out a ∧ Rd H' a u := by
  refine ⟨e.notin h (Rd.some r), ?_⟩
  rcases r with r | ⟨o, r⟩
  · exact .inl (e.keep _ _ r h.1)
  · exact .inr ⟨o, e.keep _ _ r h.1⟩
theorem LstAt.ev {Y : Wd} {ρ ρ' : Rh} {H H' : Hp} (e : EvR ρ H ρ' H') {a : Addr} {xs : List V} (h : LstAt Y ρ H a xs) : LstAt Y ρ' H' a xs :=
  ⟨h.1, e.notin h.2.1 (by rw [h.2.2]; simp), e.keep _ _ h.2.2 h.2.1.1⟩
theorem ArgAt.ev {Y : Wd} {ρ ρ' : Rh} {H H' : Hp} (e : EvR ρ H ρ' H') {a : Addr} {xs : List V} (h : ArgAt Y ρ H a xs) : ArgAt Y ρ' H' a xs :=
  ⟨h.1, h.2.elim (fun z => .inl (Rd.ev e z.1 z.2)) .inr⟩
theorem TupAt.ev {Y : Wd} {ρ ρ' : Rh} {H H' : Hp} (e : EvR ρ H ρ' H') {a : Addr} {xs : List V} (h : TupAt Y ρ H a xs) : TupAt Y ρ' H' a xs :=
  ⟨h.1, h.2.elim (fun z => .inl (Rd.ev e z.1 z.2)) .inr⟩
mutual
theorem Rp.ev {Y : Wd} {ρ ρ' : Rh} {H H' : Hp} (e : EvR ρ H ρ' H') : ∀ {t : T} {v : V}, Rp Y ρ H t v → Rp Y ρ' H' t v
  | _, _, .non => .non
  | _, _, .bl b => .bl b
  | _, _, .int i => .int i
  | _, _, .str h => .str h
  | _, _, .tup h r => .tup (h.ev e) (r.ev e)
  | _, _, .arg h r => .arg (h.ev e) (r.ev e)
  | _, _, .lst h r => .lst (h.ev e) (r.ev e)
  | _, _, .obj c n h nm r => .obj c (e.notin n (by rw [h]; simp)) (e.keep _ _ h n.1) nm (r.ev e)
  | _, _, .ref h => .ref (e.get h)
theorem Rps.ev {Y : Wd} {ρ ρ' : Rh} {H H' : Hp} (e : EvR ρ H ρ' H') : ∀ {ts : List T} {vs : List V}, Rps Y ρ H ts vs → Rps Y ρ' H' ts vs
  | _, _, .nil => .nil
  | _, _, .cons a b => .cons (a.ev e) (b.ev e)
end
theorem Rps.length {Y : Wd} {ρ : Rh} {H : Hp} : ∀ {ts : List T} {vs : List V}, Rps Y ρ H ts vs → vs.length = ts.length
  | _, _, .nil => rfl
  | _, _, .cons _ b => by simp [b.length]
theorem Rps.get {Y : Wd} {ρ : Rh} {H : Hp} : ∀ {ts : List T} {vs : List V} {i : Nat} {t : T}, Rps Y ρ H ts vs → ts[i]? = some t → ∃ v, vs[i]? = some v ∧ Rp Y ρ H t v
  | _, _, _, _, .nil, e => by simp at e
  | _, _, 0, _, .cons a _, e => by simp at e; subst e; exact ⟨_, rfl, a⟩
  | _, _, i + 1, _, .cons _ b, e => by simpa using b.get (i := i) (by simpa using e)
theorem Rps.append {Y : Wd} {ρ : Rh} {H : Hp} : ∀ {ts us : List T} {vs ws : List V}, Rps Y ρ H ts vs → Rps Y ρ H us ws → Rps Y ρ H (ts ++ us) (vs ++ ws)
  | _, _, _, _, .nil, b => b
  | _, _, _, _, .cons a c, b => .cons a (c.append b)
theorem Rps.take {Y : Wd} {ρ : Rh} {H : Hp} (n : Nat) : ∀ {ts : List T} {vs : List V}, Rps Y ρ H ts vs → Rps Y ρ H (ts.take n) (vs.take n)
  | _, _, .nil => by simp; exact .nil
  | _, _, .cons a b => by
    cases n with
    | zero => exact .nil
    | succ n => exact .cons a (b.take n)
theorem Rps.drop {Y : Wd} {ρ : Rh} {H : Hp} (n : Nat) : ∀ {ts : List T} {vs : List V}, Rps Y ρ H ts vs → Rps Y ρ H (ts.drop n) (vs.drop n)
  | _, _, .nil => by simp; exact .nil
  | _, _, .cons a b => by
    cases n with
    | zero => exact .cons a b
    | succ n => exact b.drop n
theorem Rps.set {Y : Wd} {ρ : Rh} {H : Hp} {t : T} {v : V} (r : Rp Y ρ H t v) : ∀ {ts : List T} {vs : List V} (i : Nat), Rps Y ρ H ts vs → Rps Y ρ H (ts.set i t) (vs.set i v)
  | _, _, _, .nil => .nil
  | _, _, 0, .cons _ b => .cons r b
  | _, _, i + 1, .cons a b => .cons a (Rps.set r i b)
theorem Rps.reverse {Y : Wd} {ρ : Rh} {H : Hp} : ∀ {ts : List T} {vs : List V}, Rps Y ρ H ts vs → Rps Y ρ H ts.reverse vs.reverse
  | _, _, .nil => by simp; exact .nil
  | _, _, .cons a b => by simp only [List.reverse_cons]; exact b.reverse.append (.cons a .nil)
theorem Rps.snoc {Y : Wd} {ρ : Rh} {H : Hp} {ts : List T} {vs : List V} {t : T} {v : V} (a : Rps Y ρ H ts vs) (b : Rp Y ρ H t v) : Rps Y ρ H (ts ++ [t]) (vs ++ [v]) := a.append (.cons b .nil)

/-- an object of the small heap at a -/
def OR (Y : Wd) (ρ : Rh) (H : Hp) (a : Addr) : VO → Prop
  | .lst ts => ∃ vs, H a = some (.lst vs) ∧ vs.length ≤ sizeLine ∧ Rps Y ρ H ts vs
  | .ins c fs => ∃ C dx vfs, Y.cm c = some C ∧ H a = some (.ins C dx vfs) ∧ vfs.map (·.1) = (Y.fn c).take fs.length ∧ Rps Y ρ H fs (vfs.map (·.2))
  | .dct kvs => ∃ vkvs : List (Key × V), H a = some (.dK vkvs) ∧ Rps Y ρ H (kvs.map (·.1)) (vkvs.map fun q => kV q.1) ∧ Rps Y ρ H (kvs.map (·.2)) (vkvs.map (·.2))
/-- the small heap -/
structure HR (Y : Wd) (ρ : Rh) (H : Hp) (h : VH) : Prop where
  len : ρ.ix.length = h.length
  nd : ρ.ix.Nodup
  bt : ∀ a ∈ ρ.bn, H a ≠ none ∧ a ∉ ρ.ix
  at_ : ∀ (n : Nat) (o : VO) (a : Addr), h[n]? = some o → ρ.ix[n]? = some a → OR Y ρ H a o
theorem OR.same {Y : Wd} {ρ ρ' : Rh} {H H' : Hp} (e : EvR ρ H ρ' H') {a : Addr} {o : VO} (s : H' a = H a) (r : OR Y ρ H a o) : OR Y ρ' H' a o := by
  cases o with
  | lst ts => obtain ⟨vs, h1, hz, h2⟩ := r; exact ⟨vs, s.trans h1, hz, h2.ev e⟩
  | ins c fs => obtain ⟨C, dx, vfs, hc, h1, hn, h2⟩ := r; exact ⟨C, dx, vfs, hc, s.trans h1, hn, h2.ev e⟩
  | dct kvs => obtain ⟨vk, h1, h2, h3⟩ := r; exact ⟨vk, s.trans h1, h2.ev e, h3.ev e⟩
theorem OR.some {Y : Wd} {ρ : Rh} {H : Hp} {a : Addr} {o : VO} (r : OR Y ρ H a o) : H a ≠ none := by
  cases o with
  | lst ts => obtain ⟨vs, h1, h2⟩ := r; rw [h1]; simp
  | ins c fs => obtain ⟨C, dx, vfs, hc, h1, hn, h2⟩ := r; rw [h1]; simp
  | dct kvs => obtain ⟨vk, h1, h2, h3⟩ := r; rw [h1]; simp
theorem HR.there {Y : Wd} {ρ : Rh} {H : Hp} {h : VH} (r : HR Y ρ H h) {a : Addr} (m : a ∈ ρ.ix) : H a ≠ none := by
  obtain ⟨n, hn, e⟩ := List.getElem_of_mem m
  have hh : n < h.length := by rw [← r.len]; exact hn
  exact (r.at_ n h[n] a (List.getElem?_eq_getElem hh) (by rw [List.getElem?_eq_getElem hn, e])).some
theorem HR.outof {Y : Wd} {ρ : Rh} {H : Hp} {h : VH} (r : HR Y ρ H h) {a : Addr} (m : H a = none) : ρ.out a := ⟨fun z => r.there z m, fun z => (r.bt a z).1 m⟩
/-- all that was tracked stands -/
theorem HR.grow {Y : Wd} {ρ : Rh} {H H' : Hp} {h : VH} (r : HR Y ρ H h) (k : ∀ b o, H b = some o → H' b = some o) : HR Y ρ H' h := by
  have th : ∀ b, H b ≠ none → H' b ≠ none := fun b z => by
    cases q : H b with
    | none => exact absurd q z
    | some o => rw [k b o q]; simp
  have e : EvR ρ H ρ H' := ⟨⟨[], by simp⟩, fun a ha => .inl ha, fun b o z _ => k b o z, th⟩
  refine ⟨r.len, r.nd, fun a ha => ⟨th a (r.bt a ha).1, (r.bt a ha).2⟩, fun n o a h1 h2 => (r.at_ n o a h1 h2).same e ?_⟩
  have z := r.there (List.mem_of_getElem? h2)
  cases q : H a with
  | none => exact absurd q z
  | some o => rw [k a o q]
theorem HR.new {Y : Wd} {ρ : Rh} {H : Hp} {h : VH} (r : HR Y ρ H h) {p : Addr} {o : HO} (hp : H p = none) : HR Y ρ (upd H p o) h := r.grow fun b u e => by rw [upd_ne (ne_of_none e hp)]; exact e
/-- a new one that may change -/
theorem HR.push {Y : Wd} {ρ : Rh} {H : Hp} {h : VH} (r : HR Y ρ H h) {p : Addr} {o : HO} {vo : VO} (hp : H p = none) (ho : OR Y (ρ.push p) (upd H p o) p vo) : HR Y (ρ.push p) (upd H p o) (h ++ [vo]) := by
  obtain ⟨np, nb⟩ := r.outof hp
  refine ⟨by simp [Rh.push, r.len], ?_, fun a ha => ?_, fun n o' a h1 h2 => ?_⟩
  · show (ρ.ix ++ [p]).Nodup
    rw [List.nodup_append]
    exact ⟨r.nd, by simp, fun a ha b hb z => by rw [List.mem_singleton.mp hb] at z; exact np (z ▸ ha)⟩
  · have hne : a ≠ p := fun z => nb (by rw [← z]; exact ha)
    refine ⟨by rw [upd_ne hne]; exact (r.bt a ha).1, fun z => ?_⟩
    rcases List.mem_append.mp (show a ∈ ρ.ix ++ [p] from z) with z | z
    · exact (r.bt a ha).2 z
    · exact hne (List.mem_singleton.mp z)
  · have h2 : (ρ.ix ++ [p])[n]? = some a := h2
    by_cases hn : n < h.length
    · rw [List.getElem?_append_left hn] at h1
      rw [List.getElem?_append_left (by rw [r.len]; exact hn)] at h2
      refine (r.at_ n o' a h1 h2).same (Ev.newρ hp).toEvR ?_
      exact upd_ne (fun z => np (by rw [← z]; exact List.mem_of_getElem? h2))
    · have e : n = h.length := by
        have := (List.getElem?_eq_some_iff.mp h1).1
        simp at this; omega
      subst e
      rw [List.getElem?_append_right (Nat.le_refl _)] at h1
      rw [List.getElem?_append_right (by rw [r.len]; exact Nat.le_refl _), r.len] at h2
      simp at h1 h2
      subst h1 h2
      exact ho
/-- a change -/
theorem HR.write {Y : Wd} {ρ : Rh} {H : Hp} {h : VH} (r : HR Y ρ H h) {n : Nat} {p : Addr} {o : HO} {vo : VO} (hp : ρ.ix[n]? = some p) (ho : OR Y ρ (upd H p o) p vo) : HR Y ρ (upd H p o) (h.set n vo) := by
  have mp := List.mem_of_getElem? hp
  refine ⟨by simp [r.len], r.nd, fun a ha => ⟨(Ev.write (o := o) mp).there a (r.bt a ha).1, (r.bt a ha).2⟩, fun k o' a h1 h2 => ?_⟩
  by_cases hk : k = n
  · subst hk
    have : k < h.length := by
      have := (List.getElem?_eq_some_iff.mp h1).1
      simpa using this
    rw [List.getElem?_set_self this] at h1
    cases h1
    rw [hp] at h2; cases h2
    exact ho
  · rw [List.getElem?_set_ne (Ne.symm hk)] at h1
    refine (r.at_ k o' a h1 h2).same (Ev.write mp).toEvR ?_
    refine upd_ne fun z => hk ?_
    subst z
    obtain ⟨a1, e1⟩ := List.getElem?_eq_some_iff.mp hp
    obtain ⟨a2, e2⟩ := List.getElem?_eq_some_iff.mp h2
    exact (List.getElem_inj r.nd).mp (e2.trans e1.symm)

/-! ### what is being built -/
theorem Rh.out_unban {ρ : Rh} {p a : Addr} (h : (ρ.ban p).out a) : ρ.out a := ⟨h.1, fun z => h.2 (List.mem_cons_of_mem _ z)⟩
mutual
theorem Rp.unban {Y : Wd} {ρ : Rh} {H : Hp} {p : Addr} : ∀ {t : T} {v : V}, Rp Y (ρ.ban p) H t v → Rp Y ρ H t v
  | _, _, .non => .non
  | _, _, .bl b => .bl b
  | _, _, .int i => .int i
  | _, _, .str h => .str h
  | _, _, .tup h r => .tup ⟨h.1, h.2.elim (fun z => .inl ⟨Rh.out_unban z.1, z.2⟩) .inr⟩ r.unban
  | _, _, .arg h r => .arg ⟨h.1, h.2.elim (fun z => .inl ⟨Rh.out_unban z.1, z.2⟩) .inr⟩ r.unban
  | _, _, .lst h r => .lst ⟨h.1, Rh.out_unban h.2.1, h.2.2⟩ r.unban
  | _, _, .obj c n h nm r => .obj c (Rh.out_unban n) h nm r.unban
  | _, _, .ref h => .ref h
theorem Rps.unban {Y : Wd} {ρ : Rh} {H : Hp} {p : Addr} : ∀ {ts : List T} {vs : List V}, Rps Y (ρ.ban p) H ts vs → Rps Y ρ H ts vs
  | _, _, .nil => .nil
  | _, _, .cons a b => .cons a.unban b.unban
end
theorem OR.unban {Y : Wd} {ρ : Rh} {H : Hp} {p a : Addr} {o : VO} (r : OR Y (ρ.ban p) H a o) : OR Y ρ H a o := by
  cases o with
  | lst ts => obtain ⟨vs, h1, hz, h2⟩ := r; exact ⟨vs, h1, hz, h2.unban⟩
  | ins c fs => obtain ⟨C, dx, vfs, hc, h1, hn, h2⟩ := r; exact ⟨C, dx, vfs, hc, h1, hn, h2.unban⟩
  | dct kvs => obtain ⟨vk, h1, h2, h3⟩ := r; exact ⟨vk, h1, h2.unban, h3.unban⟩
theorem HR.unban {Y : Wd} {ρ : Rh} {H : Hp} {h : VH} {p : Addr} (r : HR Y (ρ.ban p) H h) : HR Y ρ H h := ⟨r.len, r.nd, fun a ha => r.bt a (List.mem_cons_of_mem _ ha), fun n o a h1 h2 => (r.at_ n o a h1 h2).unban⟩
/-- what stood ahead of a fresh thing -/
theorem out_ban {ρ : Rh} {H : Hp} {p a : Addr} (hp : H p = none) (ha : H a ≠ none) (h : ρ.out a) : (ρ.ban p).out a := ⟨h.1, fun z => by
  rcases List.mem_cons.mp z with z | z
  · exact ha (z ▸ hp)
  · exact h.2 z⟩
mutual
theorem Rp.ban {Y : Wd} {ρ : Rh} {H : Hp} {p : Addr} (hp : H p = none) : ∀ {t : T} {v : V}, Rp Y ρ H t v → Rp Y (ρ.ban p) H t v
  | _, _, .non => .non
  | _, _, .bl b => .bl b
  | _, _, .int i => .int i
  | _, _, .str h => .str h
  | _, _, .tup h r => .tup ⟨h.1, h.2.elim (fun z => .inl ⟨out_ban hp (Rd.some z.2) z.1, z.2⟩) .inr⟩ (r.ban hp)
  | _, _, .arg h r => .arg ⟨h.1, h.2.elim (fun z => .inl ⟨out_ban hp (Rd.some z.2) z.1, z.2⟩) .inr⟩ (r.ban hp)
  | _, _, .lst h r => .lst ⟨h.1, out_ban hp (by rw [h.2.2]; simp) h.2.1, h.2.2⟩ (r.ban hp)
  | _, _, .obj c n h nm r => .obj c (out_ban hp (by rw [h]; simp) n) h nm (r.ban hp)
  | _, _, .ref h => .ref h
theorem Rps.ban {Y : Wd} {ρ : Rh} {H : Hp} {p : Addr} (hp : H p = none) : ∀ {ts : List T} {vs : List V}, Rps Y ρ H ts vs → Rps Y (ρ.ban p) H ts vs
  | _, _, .nil => .nil
  | _, _, .cons a b => .cons (a.ban hp) (b.ban hp)
end
theorem OR.ban {Y : Wd} {ρ : Rh} {H : Hp} {p a : Addr} (hp : H p = none) {o : VO} (r : OR Y ρ H a o) : OR Y (ρ.ban p) H a o := by
  cases o with
  | lst ts => obtain ⟨vs, h1, hz, h2⟩ := r; exact ⟨vs, h1, hz, h2.ban hp⟩
  | ins c fs => obtain ⟨C, dx, vfs, hc, h1, hn, h2⟩ := r; exact ⟨C, dx, vfs, hc, h1, hn, h2.ban hp⟩
  | dct kvs => obtain ⟨vk, h1, h2, h3⟩ := r; exact ⟨vk, h1, h2.ban hp, h3.ban hp⟩
/-- a change at a banned thing -/
theorem out_ne {ρ : Rh} {p a : Addr} (hp : p ∈ ρ.bn) (h : ρ.out a) : a ≠ p := fun z => h.2 (z ▸ hp)
theorem Rd.updb {ρ : Rh} {H : Hp} {p a : Addr} {o u : HO} (hp : p ∈ ρ.bn) (h : ρ.out a) (r : Rd H a u) : Rd (upd H p o) a u := by
  rcases r with r | ⟨q, r⟩
  · exact .inl (by rw [upd_ne (out_ne hp h)]; exact r)
  · exact .inr ⟨q, by rw [upd_ne (out_ne hp h)]; exact r⟩
mutual
theorem Rp.updb {Y : Wd} {ρ : Rh} {H : Hp} {p : Addr} {o : HO} (hp : p ∈ ρ.bn) : ∀ {t : T} {v : V}, Rp Y ρ H t v → Rp Y ρ (upd H p o) t v
  | _, _, .non => .non
  | _, _, .bl b => .bl b
  | _, _, .int i => .int i
  | _, _, .str h => .str h
  | _, _, .tup h r => .tup ⟨h.1, h.2.elim (fun z => .inl ⟨z.1, Rd.updb hp z.1 z.2⟩) .inr⟩ (r.updb hp)
  | _, _, .arg h r => .arg ⟨h.1, h.2.elim (fun z => .inl ⟨z.1, Rd.updb hp z.1 z.2⟩) .inr⟩ (r.updb hp)
  | _, _, .lst h r => .lst ⟨h.1, h.2.1, by rw [upd_ne (out_ne hp h.2.1)]; exact h.2.2⟩ (r.updb hp)
  | _, _, .obj c n h nm r => .obj c n (by rw [upd_ne (out_ne hp n)]; exact h) nm (r.updb hp)
  | _, _, .ref h => .ref h
theorem Rps.updb {Y : Wd} {ρ : Rh} {H : Hp} {p : Addr} {o : HO} (hp : p ∈ ρ.bn) : ∀ {ts : List T} {vs : List V}, Rps Y ρ H ts vs → Rps Y ρ (upd H p o) ts vs
  | _, _, .nil => .nil
  | _, _, .cons a b => .cons (a.updb hp) (b.updb hp)
end
theorem HR.updb {Y : Wd} {ρ : Rh} {H : Hp} {h : VH} {p : Addr} {o : HO} (hp : p ∈ ρ.bn) (r : HR Y ρ H h) : HR Y ρ (upd H p o) h := by
  refine ⟨r.len, r.nd, fun a ha => ⟨?_, (r.bt a ha).2⟩, fun n vo a h1 h2 => ?_⟩
  · by_cases z : a = p
    · rw [z, upd_same]; simp
    · rw [upd_ne z]; exact (r.bt a ha).1
  · have ne : a ≠ p := fun z => (r.bt p hp).2 (by rw [← z]; exact List.mem_of_getElem? h2)
    have q := r.at_ n vo a h1 h2
    cases vo with
    | lst ts => obtain ⟨vs, h1, hz, h2⟩ := q; exact ⟨vs, by rw [upd_ne ne]; exact h1, hz, h2.updb hp⟩
    | ins c fs => obtain ⟨C, dx, vfs, hc, h1, hn, h2⟩ := q; exact ⟨C, dx, vfs, hc, by rw [upd_ne ne]; exact h1, hn, h2.updb hp⟩
    | dct kvs => obtain ⟨vk, h1, h2, h3⟩ := q; exact ⟨vk, by rw [upd_ne ne]; exact h1, h2.updb hp, h3.updb hp⟩
/-- a fresh thing begins to be built -/
theorem HR.begin {Y : Wd} {ρ : Rh} {H : Hp} {h : VH} {p : Addr} {o : HO} (hp : H p = none) (r : HR Y ρ H h) : HR Y (ρ.ban p) (upd H p o) h := by
  have r2 : HR Y ρ (upd H p o) h := r.new hp
  refine ⟨r2.len, r2.nd, fun a ha => ?_, fun n vo a h1 h2 => ?_⟩
  · rcases List.mem_cons.mp ha with z | z
    · rw [z, upd_same]
      exact ⟨by simp, (r.outof hp).1⟩
    · exact r2.bt a z
  · have ne : a ≠ p := fun z => (r.outof hp).1 (by rw [← z]; exact List.mem_of_getElem? h2)
    have q := (r.at_ n vo a h1 h2).ban hp
    have mb : p ∈ (ρ.ban p).bn := List.mem_cons_self
    cases vo with
    | lst ts => obtain ⟨vs, h1, hz, h2⟩ := q; exact ⟨vs, by rw [upd_ne ne]; exact h1, hz, h2.updb mb⟩
    | ins c fs => obtain ⟨C, dx, vfs, hc, h1, hn, h2⟩ := q; exact ⟨C, dx, vfs, hc, by rw [upd_ne ne]; exact h1, hn, h2.updb mb⟩
    | dct kvs => obtain ⟨vk, h1, h2, h3⟩ := q; exact ⟨vk, by rw [upd_ne ne]; exact h1, h2.updb mb, h3.updb mb⟩
/-- what was built may change from now on -/
theorem Rh.out_push {ρ : Rh} {p a : Addr} (z : (ρ.ban p).out a) : (ρ.push p).out a := ⟨fun zz => by
  rcases List.mem_append.mp (show a ∈ ρ.ix ++ [p] from zz) with y | y
  · exact z.1 y
  · exact z.2 (by rw [List.mem_singleton.mp y]; exact List.mem_cons_self), fun zz => z.2 (List.mem_cons_of_mem _ zz)⟩
mutual
theorem Rp.topush {Y : Wd} {ρ : Rh} {H : Hp} {p : Addr} : ∀ {t : T} {v : V}, Rp Y (ρ.ban p) H t v → Rp Y (ρ.push p) H t v
  | _, _, .non => .non
  | _, _, .bl b => .bl b
  | _, _, .int i => .int i
  | _, _, .str h => .str h
  | _, _, .tup h r => .tup ⟨h.1, h.2.elim (fun z => .inl ⟨Rh.out_push z.1, z.2⟩) .inr⟩ r.topush
  | _, _, .arg h r => .arg ⟨h.1, h.2.elim (fun z => .inl ⟨Rh.out_push z.1, z.2⟩) .inr⟩ r.topush
  | _, _, .lst h r => .lst ⟨h.1, Rh.out_push h.2.1, h.2.2⟩ r.topush
  | _, _, .obj c n h nm r => .obj c (Rh.out_push n) h nm r.topush
  | _, _, .ref h => .ref (by
    have h' : ρ.ix[_]? = some _ := h
    show (ρ.ix ++ [p])[_]? = _
    rw [List.getElem?_append_left (List.getElem?_eq_some_iff.mp h').1]; exact h')
theorem Rps.topush {Y : Wd} {ρ : Rh} {H : Hp} {p : Addr} : ∀ {ts : List T} {vs : List V}, Rps Y (ρ.ban p) H ts vs → Rps Y (ρ.push p) H ts vs
  | _, _, .nil => .nil
  | _, _, .cons a b => .cons a.topush b.topush
end
theorem HR.topush {Y : Wd} {ρ : Rh} {H : Hp} {h : VH} {p : Addr} {vo : VO} (hp : p ∉ ρ.bn) (r : HR Y (ρ.ban p) H h) (ho : OR Y (ρ.push p) H p vo) : HR Y (ρ.push p) H (h ++ [vo]) := by
  have nix : p ∉ ρ.ix := (r.bt p List.mem_cons_self).2
  refine ⟨?_, ?_, fun a ha => ?_, fun n o a q1 q2 => ?_⟩
  · have z : ρ.ix.length = h.length := r.len
    show (ρ.ix ++ [p]).length = (h ++ [vo]).length
    simp [z]
  · show (ρ.ix ++ [p]).Nodup
    rw [List.nodup_append]
    exact ⟨r.nd, by simp, fun a ha b hb z => by rw [List.mem_singleton.mp hb] at z; exact nix (z ▸ ha)⟩
  · have ha : a ∈ ρ.bn := ha
    refine ⟨(r.unban.bt a ha).1, fun z => ?_⟩
    rcases List.mem_append.mp (show a ∈ ρ.ix ++ [p] from z) with z | z
    · exact (r.unban.bt a ha).2 z
    · rw [List.mem_singleton.mp z] at ha
      exact hp ha
  · have q2 : (ρ.ix ++ [p])[n]? = some a := q2
    have hlen : ρ.ix.length = h.length := r.len
    by_cases hn : n < ρ.ix.length
    · rw [List.getElem?_append_left (by rw [← hlen]; exact hn)] at q1
      rw [List.getElem?_append_left hn] at q2
      have q := r.at_ n o a q1 q2
      cases o with
      | lst us => obtain ⟨ws', b1, b2, b3⟩ := q; exact ⟨ws', b1, b2, b3.topush⟩
      | ins cc fs => obtain ⟨C, dx, vfs, b0, b1, b2, b3⟩ := q; exact ⟨C, dx, vfs, b0, b1, b2, b3.topush⟩
      | dct kvs => obtain ⟨vk, b1, b2, b3⟩ := q; exact ⟨vk, b1, b2.topush, b3.topush⟩
    · have en : n = ρ.ix.length := by
        have z := (List.getElem?_eq_some_iff.mp q2).1
        simp at z; omega
      rw [en, List.getElem?_append_right (Nat.le_refl _)] at q2
      rw [en, hlen, List.getElem?_append_right (Nat.le_refl _)] at q1
      simp at q1 q2
      subst q1 q2
      exact ho

/-- the slots -/
def Sl (Y : Wd) (ρ : Rh) (H : Hp) (τ : TS_) (σ : St) : Prop := τ.length = σ.length ∧ ∀ (i : Nat) (t : T), τ[i]? = some (some t) → ∃ v, σ[i]? = some (some v) ∧ Rp Y ρ H t v
theorem Sl.ev {Y : Wd} {ρ ρ' : Rh} {H H' : Hp} {τ : TS_} {σ : St} (e : EvR ρ H ρ' H') (s : Sl Y ρ H τ σ) : Sl Y ρ' H' τ σ := ⟨s.1, fun i t h => let ⟨v, a, b⟩ := s.2 i t h; ⟨v, a, b.ev e⟩⟩
theorem Sl.set {Y : Wd} {ρ : Rh} {H : Hp} {τ : TS_} {σ : St} (s : Sl Y ρ H τ σ) {t : T} {v : V} (i : Nat) (r : Rp Y ρ H t v) : Sl Y ρ H (τ.set i (some t)) (σ.set i (some v)) := by
  refine ⟨by simp [s.1], fun j t' h => ?_⟩
  by_cases hj : i = j
  · subst hj
    have hi : i < τ.length := by
      have := (List.getElem?_eq_some_iff.mp h).1
      simpa using this
    rw [List.getElem?_set_self hi] at h
    cases h
    exact ⟨v, List.getElem?_set_self (by rw [← s.1]; exact hi), r⟩
  · rw [List.getElem?_set_ne hj] at h ⊢
    exact s.2 j t' h

/-- what a reading of a mirror's expression asks -/
structure Go (Y : Wd) (ρ : Rh) (H : Hp) (τ : TS_) (σ : St) (h : VH) : Prop where
  sl : Sl Y ρ H τ σ
  hr : HR Y ρ H h
/-- behind an expression -/
structure To {α β : Type} (Y : Wd) (R : Rh → Hp → α → β → Prop) (ρ : Rh) (H : Hp) (t : α) (h' : VH) (Q : β → Hp → Prop) : Prop where
  to : ∀ ρ' H' v, Ev ρ H ρ' H' → HR Y ρ' H' h' → R ρ' H' t v → Q v H'
def TM (Y : Wd) (f : ME) : TE := fun σ H Q => ∃ ρ τ h t h', Go Y ρ H τ σ h ∧ f τ h = .ok t h' ∧ To Y (Rp Y) ρ H t h' Q
def TMA (Y : Wd) (f : MA) : TA := fun σ H Q => ∃ ρ τ h t h', Go Y ρ H τ σ h ∧ f τ h = .ok t h' ∧ To Y (Rps Y) ρ H t h' Q
def TMB (Y : Wd) (f : MB) : TT := fun σ H Q => ∃ ρ τ h t h', Go Y ρ H τ σ h ∧ f τ h = .ok t h' ∧ To Y (fun _ _ a b => a = b) ρ H t h' Q
/-- behind a statement -/
def OutTo (Y : Wd) (ρ : Rh) (H : Hp) (o : Out) (D : Ends) : Prop := match o with
  | .nx τ h => ∀ ρ' H' σ, Ev ρ H ρ' H' → HR Y ρ' H' h → Sl Y ρ' H' τ σ → D.nx σ H'
  | .bk τ h => ∀ ρ' H' σ, Ev ρ H ρ' H' → HR Y ρ' H' h → Sl Y ρ' H' τ σ → D.bk σ H'
  | .ct τ h => ∀ ρ' H' σ, Ev ρ H ρ' H' → HR Y ρ' H' h → Sl Y ρ' H' τ σ → D.ct σ H'
  | .rt t h => ∀ ρ' H' v, Ev ρ H ρ' H' → HR Y ρ' H' h → Rp Y ρ' H' t v → D.rt v H'
  | .bad => False
def TMS (Y : Wd) (f : MS) : TS := fun D σ H => ∃ ρ τ h, Go Y ρ H τ σ h ∧ OutTo Y ρ H (f τ h) D

theorem To.ev {α β : Type} {Y : Wd} {R : Rh → Hp → α → β → Prop} {ρ ρ1 : Rh} {H H1 : Hp} {t : α} {h' : VH} {Q : β → Hp → Prop} (e : Ev ρ H ρ1 H1) (g : To Y R ρ H t h' Q) : To Y R ρ1 H1 t h' Q :=
  ⟨fun ρ' H' v e1 hr r => g.to ρ' H' v (e.trans e1) hr r⟩
theorem OutTo.ev {Y : Wd} {ρ ρ1 : Rh} {H H1 : Hp} {o : Out} {D : Ends} (e : Ev ρ H ρ1 H1) (g : OutTo Y ρ H o D) : OutTo Y ρ1 H1 o D := by
  cases o with
  | nx τ h => exact fun ρ' H' σ e1 => g ρ' H' σ (e.trans e1)
  | bk τ h => exact fun ρ' H' σ e1 => g ρ' H' σ (e.trans e1)
  | ct τ h => exact fun ρ' H' σ e1 => g ρ' H' σ (e.trans e1)
  | rt τ h => exact fun ρ' H' σ e1 => g ρ' H' σ (e.trans e1)
  | bad => exact g
theorem Go.ev {Y : Wd} {ρ ρ1 : Rh} {H H1 : Hp} {τ : TS_} {σ : St} {h h1 : VH} (g : Go Y ρ H τ σ h) (e : Ev ρ H ρ1 H1) (hr : HR Y ρ1 H1 h1) : Go Y ρ1 H1 τ σ h1 := ⟨g.sl.ev e.toEvR, hr⟩
theorem pe_imp {X : Cx} {e : Expr} {t t' : TE} (h : PE X e t) (i : ∀ σ H Q, t' σ H Q → t σ H Q) : PE X e t' := ⟨fun pins s σ H Q I q => h.run pins s σ H Q I (i _ _ _ q)⟩
theorem pt_imp {X : Cx} {e : Expr} {t t' : TT} (h : PT X e t) (i : ∀ σ H Q, t' σ H Q → t σ H Q) : PT X e t' := ⟨fun pins s σ H Q I q => h.run pins s σ H Q I (i _ _ _ q)⟩
theorem pa_imp {X : Cx} {e : List Expr} {t t' : TA} (h : PA X e t) (i : ∀ σ H Q, t' σ H Q → t σ H Q) : PA X e t' := ⟨fun pos pins s σ H Q I q => h.run pos pins s σ H Q I (i _ _ _ q)⟩
theorem ps_imp {X : Cx} {e : Stmt} {t t' : TS} (h : PS X e t) (i : ∀ D σ H, t' D σ H → t D σ H) : PS X e t' := ⟨fun pins s σ H D I q => h.run pins s σ H D I (i _ _ _ q)⟩
theorem pss_imp {X : Cx} {e : List Stmt} {t t' : TS} (h : PSs X e t) (i : ∀ D σ H, t' D σ H → t D σ H) : PSs X e t' := ⟨fun pins s σ H D I q => h.run pins s σ H D I (i _ _ _ q)⟩
end TL

set_option Elab.async false
set_option linter.all false
set_option maxRecDepth 100000
set_option maxHeartbeats 4000000
namespace TL
open PySem PySem.Spec L2
/-! ### reading the small heap -/
def listOf (h : VH) : T → Option (List T)
  | .lst ts => some ts
  | .ref n => match h[n]? with
    | some (.lst ts) => some ts
    | _ => none
  | _ => none
def tupOf : T → Option (List T)
  | .tup ts => some ts
  | _ => none
def seqOf (h : VH) : T → Option (List T)
  | .tup ts => some ts
  | .arg ts => some ts
  | t => listOf h t
theorem listOf_ok' {Y : Wd} {ρ : Rh} {H : Hp} {h : VH} {t : T} {v : V} {ts : List T} (r : Rp Y ρ H t v) (hr : HR Y ρ H h) (e : listOf h t = some ts) : ∃ a vs, v = .ref a ∧ H a = some (.lst vs) ∧ vs.length ≤ sizeLine ∧ Rps Y ρ H ts vs := by
  cases r with
  | lst la rs => simp only [listOf, Option.some.injEq] at e; subst e; exact ⟨_, _, rfl, la.2.2, la.1, rs⟩
  | @ref n a ha =>
    simp only [listOf] at e
    cases q : h[n]? with
    | none => rw [q] at e; cases e
    | some o =>
      rw [q] at e
      cases o with
      | lst us =>
        simp only [Option.some.injEq] at e; subst e
        obtain ⟨vs, h1, hz, h2⟩ := hr.at_ n _ a q ha
        exact ⟨_, vs, rfl, h1, hz, h2⟩
      | ins c fs => cases e
      | dct kvs => cases e
  | _ => cases e
theorem listOf_ok {Y : Wd} {ρ : Rh} {H : Hp} {h : VH} {t : T} {v : V} {ts : List T} (r : Rp Y ρ H t v) (hr : HR Y ρ H h) (e : listOf h t = some ts) : ∃ a vs, v = .ref a ∧ SqL Y.K H a vs ∧ vs.length ≤ sizeLine ∧ Rps Y ρ H ts vs :=
  let ⟨a, vs, e1, e2, e3, e4⟩ := listOf_ok' r hr e
  ⟨a, vs, e1, .inl (.inl e2), e3, e4⟩
theorem tupOf_ok {Y : Wd} {ρ : Rh} {H : Hp} {t : T} {v : V} {ts : List T} (r : Rp Y ρ H t v) (e : tupOf t = some ts) : ∃ a vs, v = .ref a ∧ SqT Y.K H a vs ∧ vs.length ≤ sizeLine ∧ Rps Y ρ H ts vs := by
  cases r with
  | tup la rs => simp only [tupOf, Option.some.injEq] at e; subst e; exact ⟨_, _, rfl, la.sq, la.1, rs⟩
  | _ => cases e
theorem seqOf_ok {Y : Wd} {ρ : Rh} {H : Hp} {h : VH} {t : T} {v : V} {ts : List T} (r : Rp Y ρ H t v) (hr : HR Y ρ H h) (e : seqOf h t = some ts) : ∃ a vs, v = .ref a ∧ (SqL Y.K H a vs ∨ SqT Y.K H a vs) ∧ vs.length ≤ sizeLine ∧ Rps Y ρ H ts vs := by
  cases r with
  | tup la rs => simp only [seqOf, Option.some.injEq] at e; subst e; exact ⟨_, _, rfl, .inr la.sq, la.1, rs⟩
  | arg la rs => simp only [seqOf, Option.some.injEq] at e; subst e; exact ⟨_, _, rfl, .inl la.sq, la.1, rs⟩
  | lst la rs =>
    obtain ⟨a, vs, e1, e2, e3, e4⟩ := listOf_ok (.lst la rs) hr (show listOf h _ = some ts from e)
    exact ⟨a, vs, e1, .inl e2, e3, e4⟩
  | ref ha =>
    obtain ⟨a, vs, e1, e2, e3, e4⟩ := listOf_ok (.ref ha) hr (show listOf h _ = some ts from e)
    exact ⟨a, vs, e1, .inl e2, e3, e4⟩
  | _ => cases e

/-! ### the steps -/
section
variable {X : Cx} {Y : Wd}
theorem tm_bind {f : ME} {g : T → VH → Res T} {σ : St} {H : Hp} {Q : VK} (q : TM Y (fun τ h => match f τ h with | .ok t h1 => g t h1 | .bad => .bad) σ H Q) :
    TM Y f σ H (fun x H1 => ∃ ρ1 h1 t u h', HR Y ρ1 H1 h1 ∧ Rp Y ρ1 H1 t x ∧ g t h1 = .ok u h' ∧ To Y (Rp Y) ρ1 H1 u h' Q) := by
  obtain ⟨ρ, τ, h, u, h', G, e, to⟩ := q
  cases e1 : f τ h with
  | bad => simp only [e1] at e; cases e
  | ok t h1 =>
    simp only [e1] at e
    exact ⟨ρ, τ, h, t, h1, G, e1, ⟨fun ρ1 H1 v ev hr r => ⟨ρ1, h1, t, u, h', hr, r, e, to.ev ev⟩⟩⟩
theorem tma_bind {f : MA} {g : List T → VH → Res T} {σ : St} {H : Hp} {Q : VK} (q : TM Y (fun τ h => match f τ h with | .ok t h1 => g t h1 | .bad => .bad) σ H Q) :
    TMA Y f σ H (fun x H1 => ∃ ρ1 h1 t u h', HR Y ρ1 H1 h1 ∧ Rps Y ρ1 H1 t x ∧ g t h1 = .ok u h' ∧ To Y (Rp Y) ρ1 H1 u h' Q) := by
  obtain ⟨ρ, τ, h, u, h', G, e, to⟩ := q
  cases e1 : f τ h with
  | bad => simp only [e1] at e; cases e
  | ok t h1 =>
    simp only [e1] at e
    exact ⟨ρ, τ, h, t, h1, G, e1, ⟨fun ρ1 H1 v ev hr r => ⟨ρ1, h1, t, u, h', hr, r, e, to.ev ev⟩⟩⟩

def eVar (i : Nat) : ME := fun τ h => match τ[i]? with
  | some (some t) => .ok t h
  | _ => .bad
def eK (t : T) : ME := fun _ h => .ok t h
theorem xVar (i : Nat) {x : Str} {pos : Pos} (hN : X.N[i]? = some x := by rfl) (hv : Vis X.env.scope x := by first | exact Or.inl rfl | exact Or.inr (Or.inl rfl) | exact Or.inr (Or.inr rfl)) (hd : (x == ("__debug__" : Str)) = false := by decide)
    (hcd : (x == ("__classdict__" : Str)) = false := by decide) : PE X (.Name x pos) (TM Y (eVar i)) := by
  refine pe_imp (pe_var (i := i) hN hv hd hcd) fun σ H Q q => ?_
  obtain ⟨ρ, τ, h, t, h', G, e, to⟩ := q
  unfold eVar at e
  split at e
  · rename_i t' et
    cases e
    obtain ⟨v, ev, r⟩ := G.sl.2 i t et
    exact ⟨v, ev, to.to ρ H v .refl G.hr r⟩
  · cases e
theorem tm_k {t : T} {v : V} (r : ∀ ρ H, Rp Y ρ H t v) (σ : St) (H : Hp) (Q : VK) (q : TM Y (eK t) σ H Q) : Q v H := by
  obtain ⟨ρ, τ, h, u, h', G, e, to⟩ := q
  cases e
  exact to.to ρ H v .refl G.hr (r ρ H)
theorem xInt {i : Int} {k : Nat} {pos : Pos} : PE X (.Constant (.int i) k pos) (TM Y (eK (.int i))) := pe_imp pe_int fun σ H Q q => tm_k (fun _ _ => .int i) σ H Q q
theorem xBl {b : Bool} {k : Nat} {pos : Pos} : PE X (.Constant (.bool b) k pos) (TM Y (eK (.bl b))) := pe_imp pe_bl fun σ H Q q => tm_k (fun _ _ => .bl b) σ H Q q
theorem xNon {k : Nat} {pos : Pos} : PE X (.Constant .none k pos) (TM Y (eK .non)) := pe_imp pe_non fun σ H Q q => tm_k (fun _ _ => .non) σ H Q q
theorem xStr {x : Str} {k : Nat} {pos : Pos} (hx : x.length ≤ 1000000 := by decide) : PE X (.Constant (.str x) k pos) (TM Y (eK (.str x))) := pe_imp pe_str fun σ H Q q => tm_k (fun _ _ => .str hx) σ H Q q

/-! ### argument lists -/
def aNil : MA := fun _ h => .ok [] h
def aCons (f : ME) (g : MA) : MA := fun τ h => match f τ h with
  | .ok t h1 => (match g τ h1 with
    | .ok ts h2 => .ok (t :: ts) h2
    | .bad => .bad)
  | .bad => .bad
theorem xaNil : PA X [] (TMA Y aNil) := pa_imp pa_nil fun σ H Q q => by
  obtain ⟨ρ, τ, h, u, h', G, e, to⟩ := q
  cases e
  exact to.to ρ H [] .refl G.hr .nil
theorem xaCons {e : Expr} {es : List Expr} {f : ME} {g : MA} (ha : PE X e (TM Y f)) (hr : PA X es (TMA Y g)) (hs : starEach (e :: es) X.env = (false, eval e X.env) :: starEach es X.env := by rfl) : PA X (e :: es) (TMA Y (aCons f g)) := by
  refine pa_imp (pa_cons ha hr hs) fun σ H Q q => ?_
  obtain ⟨ρ, τ, h, u, h', G, e, to⟩ := q
  unfold aCons at e
  cases e1 : f τ h with
  | bad => simp only [e1] at e; cases e
  | ok t h1 =>
    simp only [e1] at e
    refine ⟨ρ, τ, h, t, h1, G, e1, ⟨fun ρ1 H1 v ev hr1 r => ?_⟩⟩
    cases e2 : g τ h1 with
    | bad => simp only [e2] at e; cases e
    | ok ts h2 =>
      simp only [e2] at e
      cases e
      exact ⟨ρ1, τ, h1, _, _, G.ev ev hr1, e2, ⟨fun ρ2 H2 vs ev2 hr2 rs => to.to ρ2 H2 (v :: vs) (ev.trans ev2) hr2 (.cons (r.ev ev2.toEvR) rs)⟩⟩

/-! ### displays -/
/-- a new list -/
def TMF (Y : Wd) (f : MA) : TE := fun σ H Q => ∃ ρ τ h ts h', Go Y ρ H τ σ h ∧ f τ h = .ok ts h' ∧
  ∀ ρ' H' D vs, Ev ρ H ρ' H' → HR Y ρ' H' h' → H D = none → LstAt Y ρ' H' D vs → Rps Y ρ' H' ts vs → HR Y (ρ'.push D) H' (h' ++ [.lst ts]) → Q (.ref D) H'
def eL (f : MA) : ME := fun τ h => match f τ h with
  | .ok ts h' => .ok (.lst ts) h'
  | .bad => .bad
def eH (f : MA) : ME := fun τ h => match f τ h with
  | .ok ts h' => .ok (.ref h'.length) (h' ++ [.lst ts])
  | .bad => .bad
theorem xL {e : Expr} {f : MA} (h : PE X e (TMF Y f)) : PE X e (TM Y (eL f)) := pe_imp h fun σ H Q q => by
  obtain ⟨ρ, τ, h, u, h', G, e, to⟩ := q
  unfold eL at e
  cases e1 : f τ h with
  | bad => simp only [e1] at e; cases e
  | ok ts h1 =>
    simp only [e1] at e
    cases e
    exact ⟨ρ, τ, h, ts, _, G, e1, fun ρ' H' D vs ev hr hD la rs _ => to.to ρ' H' _ ev hr (.lst la rs)⟩
theorem xH {e : Expr} {f : MA} (h : PE X e (TMF Y f)) : PE X e (TM Y (eH f)) := pe_imp h fun σ H Q q => by
  obtain ⟨ρ, τ, h, u, h', G, e, to⟩ := q
  unfold eH at e
  cases e1 : f τ h with
  | bad => simp only [e1] at e; cases e
  | ok ts h1 =>
    simp only [e1] at e
    cases e
    refine ⟨ρ, τ, h, ts, h1, G, e1, fun ρ' H' D vs ev hr hD la rs hp => to.to (ρ'.push D) H' _ (.mk' ?_ ev.bn ev.keep ev.there) hp (.ref ?_)⟩
    · obtain ⟨m, em, hm⟩ := ev.more
      refine ⟨m ++ [D], by simp [Rh.push, em], fun p hp => ?_⟩
      rcases List.mem_append.mp hp with z | z
      · exact hm p z
      · rw [List.mem_singleton.mp z]; exact hD
    · show (ρ'.ix ++ [D])[_]? = _
      rw [List.getElem?_append_right (by rw [hr.len]; exact Nat.le_refl _), hr.len]
      simp
theorem newL {Y : Wd} {ρ : Rh} {H : Hp} {h : VH} {ts : List T} {vs : List V} {D : Addr} (hr : HR Y ρ H h) (rs : Rps Y ρ H ts vs) (hz : vs.length ≤ sizeLine) (hD : H D = none) :
    HR Y ρ (upd H D (.lst vs)) h ∧ LstAt Y ρ (upd H D (.lst vs)) D vs ∧ Rps Y ρ (upd H D (.lst vs)) ts vs ∧ HR Y (ρ.push D) (upd H D (.lst vs)) (h ++ [.lst ts]) :=
  ⟨hr.new hD, ⟨hz, hr.outof hD, upd_same⟩, rs.ev (Ev.new hD).toEvR, hr.push hD ⟨vs, upd_same, hz, rs.ev (Ev.newρ hD).toEvR⟩⟩
def aLim (f : MA) : MA := fun τ h => match f τ h with
  | .ok ts h' => if ts.length ≤ 16777216 then .ok ts h' else .bad
  | .bad => .bad
theorem xLst {es : List Expr} {g : MA} {pos : Pos} (ha : PA X es (TMA Y g)) : PE X (.List es pos) (TMF Y (aLim g)) := pe_imp (pe_lst ha) fun σ H Q q => by
  obtain ⟨ρ, τ, h, u, h', G, e, to⟩ := q
  unfold aLim at e
  cases e1 : g τ h with
  | bad => simp only [e1] at e; cases e
  | ok ts h1 =>
    simp only [e1] at e
    split at e
    · rename_i hl
      cases e
      refine ⟨ρ, τ, h, _, _, G, e1, ⟨fun ρ1 H1 vs ev hr rs => ⟨by rw [rs.length, sizeLine_eq]; exact hl, fun p hp => ?_⟩⟩⟩
      obtain ⟨n1, n2, n3, n4⟩ := newL hr rs (by rw [rs.length, sizeLine_eq]; exact hl) hp
      refine to ρ1 _ p vs (ev.trans (Ev.new hp)) n1 ?_ n2 n3 n4
      exact ev.fresh hp
    · cases e
def eTup (g : MA) : ME := fun τ h => match g τ h with
  | .ok ts h' => if ts.length ≤ 16777216 then .ok (.tup ts) h' else .bad
  | .bad => .bad
theorem newT {Y : Wd} {ρ : Rh} {H : Hp} {h : VH} {ts : List T} {vs : List V} {D : Addr} (hr : HR Y ρ H h) (rs : Rps Y ρ H ts vs) (hz : vs.length ≤ sizeLine) (hD : H D = none) :
    HR Y ρ (upd H D (.tup vs)) h ∧ Rp Y ρ (upd H D (.tup vs)) (.tup ts) (.ref D) :=
  ⟨hr.new hD, .tup ⟨hz, .inl ⟨hr.outof hD, .inl upd_same⟩⟩ (rs.ev (Ev.new hD).toEvR)⟩
theorem xTup {es : List Expr} {g : MA} {pos : Pos} {x1} (ha : PA X es (TMA Y g)) : PE X (.Tuple es x1 pos) (TM Y (eTup g)) := pe_imp (pe_tup ha) fun σ H Q q => by
  obtain ⟨ρ, τ, h, u, h', G, e, to⟩ := q
  unfold eTup at e
  cases e1 : g τ h with
  | bad => simp only [e1] at e; cases e
  | ok ts h1 =>
    simp only [e1] at e
    split at e
    · rename_i hl
      cases e
      refine ⟨ρ, τ, h, _, _, G, e1, ⟨fun ρ1 H1 vs ev hr rs => ⟨by rw [rs.length, sizeLine_eq]; exact hl, fun p hp => ?_⟩⟩⟩
      obtain ⟨n1, n2⟩ := newT hr rs (by rw [rs.length, sizeLine_eq]; exact hl) hp
      exact to.to ρ1 _ _ (ev.trans (Ev.new hp)) n1 n2
    · cases e

/-! ### calls by values -/
/-- a reading of arguments' values keeps what b says -/
def CT (Y : Wd) (r : List V → Hp → VK → Prop) (b : List T → VH → Res T) : Prop := ∀ ρ H ts vs h t h' Q, Rps Y ρ H ts vs → HR Y ρ H h → b ts h = .ok t h' → To Y (Rp Y) ρ H t h' Q → r vs H Q
def eCall (b : List T → VH → Res T) (g : MA) : ME := fun τ h => match g τ h with
  | .ok ts h1 => b ts h1
  | .bad => .bad
theorem tm_call {r : List V → Hp → VK → Prop} {b : List T → VH → Res T} (ct : CT Y r b) {g : MA} {σ : St} {H : Hp} {Q : VK} (q : TM Y (eCall b g) σ H Q) : TMA Y g σ H fun vs H1 => r vs H1 Q := by
  obtain ⟨ρ, τ, h, t, h1, G, e, to⟩ := tma_bind (show TM Y (fun τ h => match g τ h with | .ok t h1 => b t h1 | .bad => .bad) σ H Q from q)
  refine ⟨ρ, τ, h, t, h1, G, e, ⟨fun ρ1 H1 v ev hr rs => ?_⟩⟩
  obtain ⟨ρ2, h2, t2, u, h3, hr2, rs2, e2, to2⟩ := to.to ρ1 H1 v ev hr rs
  exact ct ρ2 H1 t2 v h2 u h3 Q rs2 hr2 e2 to2
/-- a two-place operation -/
def OT (Y : Wd) (r : R2) (b : T → T → VH → Res T) : Prop := ∀ ρ H t1 t2 v1 v2 h t h' Q, Rp Y ρ H t1 v1 → Rp Y ρ H t2 v2 → HR Y ρ H h → b t1 t2 h = .ok t h' → To Y (Rp Y) ρ H t h' Q → r v1 v2 H Q
def eOp (b : T → T → VH → Res T) (f g : ME) : ME := fun τ h => match f τ h with
  | .ok t h1 => (match g τ h1 with
    | .ok u h2 => b t u h2
    | .bad => .bad)
  | .bad => .bad
theorem tm_op {r : R2} {b : T → T → VH → Res T} (ot : OT Y r b) {f g : ME} {σ : St} {H : Hp} {Q : VK} (q : TM Y (eOp b f g) σ H Q) : TM Y f σ H fun x H1 => TM Y g σ H1 fun y H2 => r x y H2 Q := by
  obtain ⟨ρ, τ, h, u, h', G, e, to⟩ := q
  unfold eOp at e
  cases e1 : f τ h with
  | bad => simp only [e1] at e; cases e
  | ok t h1 =>
    simp only [e1] at e
    refine ⟨ρ, τ, h, t, h1, G, e1, ⟨fun ρ1 H1 v ev hr1 r1 => ?_⟩⟩
    cases e2 : g τ h1 with
    | bad => simp only [e2] at e; cases e
    | ok s h2 =>
      simp only [e2] at e
      exact ⟨ρ1, τ, h1, s, h2, G.ev ev hr1, e2, ⟨fun ρ2 H2 w ev2 hr2 r2 => ot ρ2 H2 t s v w h2 u h' Q (r1.ev ev2.toEvR) r2 hr2 e (to.ev (ev.trans ev2))⟩⟩
theorem xOp {op : Operator} {r : R2} {b : T → T → VH → Res T} (ot : OT Y r b) {a c : Expr} {f g : ME} {pos : Pos} (ho : OpR X (binaryOp op) r) (ha : PE X a (TM Y f)) (hb : PE X c (TM Y g)) : PE X (.BinOp a op c pos) (TM Y (eOp b f g)) :=
  pe_imp (pe_op ho ha hb) fun σ H Q q => tm_op ot q
theorem xCmp {op : CmpOp} {r : R2} {b : T → T → VH → Res T} (ot : OT Y r b) {a c : Expr} {f g : ME} {pos : Pos} (ho : OpR X (compareOp op) r) (ha : PE X a (TM Y f)) (hb : PE X c (TM Y g)) (hm : behindInMarks op c = false := by first | exact nomark _ | rfl) : PE X (.Compare a [op] [c] pos) (TM Y (eOp b f g)) :=
  pe_imp (pe_cmpR ho ha hb hm) fun σ H Q q => tm_op ot q
theorem xCallB {id : String} {x : Str} {r : List V → Hp → VK → Prop} {b : List T → VH → Res T} (ct : CT Y r b) {e : Expr} {es : List Expr} {g : MA} {p pos : Pos} (hc : CallR X (.builtin id) r) (hg : Gl X x) (hm : X.mg x = none) (hv : bootBuiltins x = some (.builtin id)) (ha : PA X (e :: es) (TMA Y g)) (hn : x ≠ "__name__" := by decide) (hdb : (x == ("__debug__" : Str)) = false := by decide)
    (he : starEach (e :: es) X.env = (false, eval e X.env) :: starEach es X.env := by rfl) (hpl : (backTo pos (starEach es X.env)).any (·.1) = false := by rfl) :
    PE X (.Call (.Name x p) (e :: es) [] pos) (TM Y (eCall b g)) := pe_imp (pe_callB hc hg hm hv ha hn hdb he hpl) fun σ H Q q => tm_call ct q
theorem xCallTy {T' : String} {x : Str} {r : List V → Hp → VK → Prop} {b : List T → VH → Res T} (ct : CT Y r b) {e : Expr} {es : List Expr} {g : MA} {p pos : Pos} (hc : CallR X (.type T') r) (hg : Gl X x) (hm : X.mg x = none) (hv : bootBuiltins x = some (.type T')) (ha : PA X (e :: es) (TMA Y g)) (hn : x ≠ "__name__" := by decide) (hdb : (x == ("__debug__" : Str)) = false := by decide)
    (he : starEach (e :: es) X.env = (false, eval e X.env) :: starEach es X.env := by rfl) (hpl : (backTo pos (starEach es X.env)).any (·.1) = false := by rfl) :
    PE X (.Call (.Name x p) (e :: es) [] pos) (TM Y (eCall b g)) := pe_imp (pe_callTy hc hg hm hv ha hn hdb he hpl) fun σ H Q q => tm_call ct q

/-! ### tests -/
/-- a value's truth -/
def truth (h : VH) : T → Option Bool
  | .non => some false
  | .bl b => some b
  | .int i => some (i != 0)
  | .str x => some (x.length != 0)
  | .tup ts => some (!ts.isEmpty)
  | .lst ts => some (!ts.isEmpty)
  | .ref n => match h[n]? with
    | some (.lst ts) => some (!ts.isEmpty)
    | _ => none
  | _ => none
def bTest (f : ME) : MB := fun τ h => match f τ h with
  | .ok (.bl b) h1 => .ok b h1
  | _ => .bad
theorem xtVal {e : Expr} {f : ME} (h : PE X e (TM Y f)) (he : ∀ whole, isTrue e X.env whole = (do let v ← whole; standAt e.pos; holding [v] (truthy v)) := by intro _; rfl) : PT X e (TMB Y (bTest f)) := pt_imp (pt_val h he) fun σ H Q q => by
  obtain ⟨ρ, τ, h, u, h', G, e, to⟩ := q
  unfold bTest at e
  split at e
  · rename_i b h1 e1
    cases e
    refine ⟨ρ, τ, h, _, _, G, e1, ⟨fun ρ1 H1 v ev hr r => ?_⟩⟩
    cases r
    exact ⟨_, rfl, to.to ρ1 H1 _ ev hr rfl⟩
  · cases e
theorem xtCmp {op : CmpOp} {r : R2} {b : T → T → VH → Res T} (ot : OT Y r b) {a c : Expr} {f g : ME} {pos : Pos} (ho : OpR X (compareOp op) r) (ha : PE X a (TM Y f)) (hb : PE X c (TM Y g)) (hm : behindInMarks op c = false := by first | exact nomark _ | rfl) : PT X (.Compare a [op] [c] pos) (TMB Y (bTest (eOp b f g))) :=
  pt_imp (pt_cmpR ho ha hb hm) fun σ H Q q => by
    obtain ⟨ρ, τ, h, u, h', G, e, to⟩ := q
    refine tm_op ot (Q := fun x H' => ∃ k, x = .bl k ∧ Q k H') ?_
    unfold bTest at e
    split at e
    · rename_i b h1 e1
      cases e
      refine ⟨ρ, τ, h, _, _, G, e1, ⟨fun ρ1 H1 v ev hr r => ?_⟩⟩
      cases r
      exact ⟨_, rfl, to.to ρ1 H1 _ ev hr rfl⟩
    · cases e
def bAnd (c d : MB) : MB := fun τ h => match c τ h with
  | .ok true h1 => d τ h1
  | .ok false h1 => .ok false h1
  | .bad => .bad
def bOr (c d : MB) : MB := fun τ h => match c τ h with
  | .ok true h1 => .ok true h1
  | .ok false h1 => d τ h1
  | .bad => .bad
def bNot (c : MB) : MB := fun τ h => match c τ h with
  | .ok b h1 => .ok (!b) h1
  | .bad => .bad
theorem pw_imp {e : Expr} {t t' : TT} (h : PW X e t) (i : ∀ σ H Q, t' σ H Q → t σ H Q) : PW X e t' := ⟨fun wh pins s σ H Q I q => h.run wh pins s σ H Q I (i _ _ _ q)⟩
theorem xwAnd1 {a : Expr} {c : MB} {pos : Pos} (h : PT X a (TMB Y c)) : PW X (.BoolOp .And [a] pos) (TMB Y c) := pw_and1 h
theorem xwOr1 {a : Expr} {c : MB} {pos : Pos} (h : PT X a (TMB Y c)) : PW X (.BoolOp .Or [a] pos) (TMB Y c) := pw_or1 h
theorem xwAnd {a b : Expr} {rest : List Expr} {c d : MB} {pos : Pos} (ha : PT X a (TMB Y c)) (hb : PW X (.BoolOp .And (b :: rest) pos) (TMB Y d)) : PW X (.BoolOp .And (a :: b :: rest) pos) (TMB Y (bAnd c d)) := pw_imp (pw_and ha hb) fun σ H Q q => by
  obtain ⟨ρ, τ, h, u, h', G, e, to⟩ := q
  unfold bAnd at e
  split at e
  · rename_i h1 e1
    exact ⟨ρ, τ, h, true, h1, G, e1, ⟨fun ρ1 H1 k ev hr ek => by subst ek; exact iteT ⟨ρ1, τ, h1, u, h', G.ev ev hr, e, to.ev ev⟩⟩⟩
  · rename_i h1 e1
    cases e
    exact ⟨ρ, τ, h, false, _, G, e1, ⟨fun ρ1 H1 k ev hr ek => by subst ek; exact iteF (to.to ρ1 H1 false ev hr rfl)⟩⟩
  · cases e
theorem xwOr {a b : Expr} {rest : List Expr} {c d : MB} {pos : Pos} (ha : PT X a (TMB Y c)) (hb : PW X (.BoolOp .Or (b :: rest) pos) (TMB Y d)) : PW X (.BoolOp .Or (a :: b :: rest) pos) (TMB Y (bOr c d)) := pw_imp (pw_or ha hb) fun σ H Q q => by
  obtain ⟨ρ, τ, h, u, h', G, e, to⟩ := q
  unfold bOr at e
  split at e
  · rename_i h1 e1
    cases e
    exact ⟨ρ, τ, h, true, _, G, e1, ⟨fun ρ1 H1 k ev hr ek => by subst ek; exact iteT (to.to ρ1 H1 true ev hr rfl)⟩⟩
  · rename_i h1 e1
    exact ⟨ρ, τ, h, false, h1, G, e1, ⟨fun ρ1 H1 k ev hr ek => by subst ek; exact iteF ⟨ρ1, τ, h1, u, h', G.ev ev hr, e, to.ev ev⟩⟩⟩
  · cases e
theorem xtW {e : Expr} {c : MB} (h : PW X e (TMB Y c)) : PT X e (TMB Y c) := h.pt
theorem xtNot {a : Expr} {c : MB} {pos : Pos} (h : PT X a (TMB Y c)) : PT X (.UnaryOp .Not a pos) (TMB Y (bNot c)) := pt_imp (pt_not h) fun σ H Q q => by
  obtain ⟨ρ, τ, h, u, h', G, e, to⟩ := q
  unfold bNot at e
  split at e
  · rename_i b h1 e1
    cases e
    exact ⟨ρ, τ, h, b, _, G, e1, ⟨fun ρ1 H1 k ev hr ek => by subst ek; exact to.to ρ1 H1 _ ev hr rfl⟩⟩
  · cases e
def eIf (c : MB) (f g : ME) : ME := fun τ h => match c τ h with
  | .ok true h1 => f τ h1
  | .ok false h1 => g τ h1
  | .bad => .bad
theorem xIf {c a b : Expr} {m : MB} {f g : ME} {pos : Pos} (hc : PT X c (TMB Y m)) (ha : PE X a (TM Y f)) (hb : PE X b (TM Y g)) : PE X (.IfExp c a b pos) (TM Y (eIf m f g)) := pe_imp (pe_ifExp hc ha hb) fun σ H Q q => by
  obtain ⟨ρ, τ, h, u, h', G, e, to⟩ := q
  unfold eIf at e
  split at e
  · rename_i h1 e1
    exact ⟨ρ, τ, h, true, h1, G, e1, ⟨fun ρ1 H1 k ev hr ek => by subst ek; exact iteT ⟨ρ1, τ, h1, u, h', G.ev ev hr, e, to.ev ev⟩⟩⟩
  · rename_i h1 e1
    exact ⟨ρ, τ, h, false, h1, G, e1, ⟨fun ρ1 H1 k ev hr ek => by subst ek; exact iteF ⟨ρ1, τ, h1, u, h', G.ev ev hr, e, to.ev ev⟩⟩⟩
  · cases e
/-! ### and, or, not as values: bools -/
def eAnd (f g : ME) : ME := fun τ h => match f τ h with
  | .ok (.bl true) h1 => g τ h1
  | .ok (.bl false) h1 => .ok (.bl false) h1
  | _ => .bad
def eOr (f g : ME) : ME := fun τ h => match f τ h with
  | .ok (.bl true) h1 => .ok (.bl true) h1
  | .ok (.bl false) h1 => g τ h1
  | _ => .bad
def eNot (f : ME) : ME := fun τ h => match f τ h with
  | .ok (.bl b) h1 => .ok (.bl (!b)) h1
  | _ => .bad
theorem xOne {op : BoolOp} {a : Expr} {f : ME} {pos : Pos} (h : PE X a (TM Y f)) : PE X (.BoolOp op [a] pos) (TM Y f) := pe_one h
theorem xAnd {a b : Expr} {rest : List Expr} {f g : ME} {pos : Pos} (ha : PE X a (TM Y f)) (hb : PE X (.BoolOp .And (b :: rest) pos) (TM Y g)) : PE X (.BoolOp .And (a :: b :: rest) pos) (TM Y (eAnd f g)) := pe_imp (pe_and ha hb) fun σ H Q q => by
  obtain ⟨ρ, τ, h, u, h', G, e, to⟩ := q
  unfold eAnd at e
  split at e
  · rename_i h1 e1
    exact ⟨ρ, τ, h, _, h1, G, e1, ⟨fun ρ1 H1 v ev hr r => by cases r; exact ⟨true, rfl, iteT ⟨ρ1, τ, h1, u, h', G.ev ev hr, e, to.ev ev⟩⟩⟩⟩
  · rename_i h1 e1
    cases e
    exact ⟨ρ, τ, h, _, _, G, e1, ⟨fun ρ1 H1 v ev hr r => by cases r; exact ⟨false, rfl, iteF (to.to ρ1 H1 _ ev hr (.bl false))⟩⟩⟩
  · cases e
theorem xOr {a b : Expr} {rest : List Expr} {f g : ME} {pos : Pos} (ha : PE X a (TM Y f)) (hb : PE X (.BoolOp .Or (b :: rest) pos) (TM Y g)) : PE X (.BoolOp .Or (a :: b :: rest) pos) (TM Y (eOr f g)) := pe_imp (pe_or ha hb) fun σ H Q q => by
  obtain ⟨ρ, τ, h, u, h', G, e, to⟩ := q
  unfold eOr at e
  split at e
  · rename_i h1 e1
    cases e
    exact ⟨ρ, τ, h, _, _, G, e1, ⟨fun ρ1 H1 v ev hr r => by cases r; exact ⟨true, rfl, iteT (to.to ρ1 H1 _ ev hr (.bl true))⟩⟩⟩
  · rename_i h1 e1
    exact ⟨ρ, τ, h, _, h1, G, e1, ⟨fun ρ1 H1 v ev hr r => by cases r; exact ⟨false, rfl, iteF ⟨ρ1, τ, h1, u, h', G.ev ev hr, e, to.ev ev⟩⟩⟩⟩
  · cases e
theorem xNot {a : Expr} {f : ME} {pos : Pos} (h : PE X a (TM Y f)) : PE X (.UnaryOp .Not a pos) (TM Y (eNot f)) := pe_imp (pe_not h) fun σ H Q q => by
  obtain ⟨ρ, τ, h, u, h', G, e, to⟩ := q
  unfold eNot at e
  split at e
  · rename_i b h1 e1
    cases e
    exact ⟨ρ, τ, h, _, _, G, e1, ⟨fun ρ1 H1 v ev hr r => by cases r; exact ⟨b, rfl, to.to ρ1 H1 _ ev hr (.bl _)⟩⟩⟩
  · cases e
end
end TL

set_option Elab.async false
set_option linter.all false
set_option maxRecDepth 100000
set_option maxHeartbeats 4000000
namespace TL
open PySem PySem.Spec L2
section
variable {X : Cx} {Y : Wd}
/-! ### statements -/
def sNil : MS := fun τ h => .nx τ h
def sSeq (f g : MS) : MS := fun τ h => match f τ h with
  | .nx τ' h' => g τ' h'
  | o => o
theorem xsNil : PSs X [] (TMS Y sNil) := pss_imp pss_nil fun D σ H q => by
  obtain ⟨ρ, τ, h, G, to⟩ := q
  exact to ρ H σ .refl G.hr G.sl
theorem xsCons {st : Stmt} {rest : List Stmt} {f g : MS} (h1 : PS X st (TMS Y f)) (h2 : PSs X rest (TMS Y g)) : PSs X (st :: rest) (TMS Y (sSeq f g)) := pss_imp (pss_cons h1 h2) fun D σ H q => by
  obtain ⟨ρ, τ, h, G, to⟩ := q
  refine ⟨ρ, τ, h, G, ?_⟩
  unfold sSeq at to
  cases e : f τ h with
  | nx τ' h' =>
    rw [e] at to
    exact fun ρ' H' σ' ev hr sl => ⟨ρ', τ', h', ⟨sl, hr⟩, OutTo.ev ev to⟩
  | rt t h' => rw [e] at to; exact to
  | bk τ' h' => rw [e] at to; exact to
  | ct τ' h' => rw [e] at to; exact to
  | bad => rw [e] at to; exact to
theorem xsOne {st : Stmt} {f : MS} (h1 : PS X st (TMS Y f)) : PSs X [st] (TMS Y f) := pss_one h1
def sRet (f : ME) : MS := fun τ h => match f τ h with
  | .ok t h' => .rt t h'
  | .bad => .bad
theorem xsRet {e : Expr} {f : ME} {pos : Pos} (he : PE X e (TM Y f)) : PS X (.Return (some e) pos) (TMS Y (sRet f)) := ps_imp (ps_ret he) fun D σ H q => by
  obtain ⟨ρ, τ, h, G, to⟩ := q
  unfold sRet at to
  cases e : f τ h with
  | bad => simp only [e] at to; exact to.elim
  | ok t h' => simp only [e] at to; exact ⟨ρ, τ, h, t, h', G, e, ⟨fun ρ' H' v ev hr r => to ρ' H' v ev hr r⟩⟩
def sExpr (f : ME) : MS := fun τ h => match f τ h with
  | .ok _ h' => .nx τ h'
  | .bad => .bad
theorem xsExpr {e : Expr} {f : ME} {pos : Pos} (he : PE X e (TM Y f)) (hs : swapsWith e none pos.line X.env = pure false := by rfl) : PS X (.Expr e pos) (TMS Y (sExpr f)) := ps_imp (ps_expr he hs) fun D σ H q => by
  obtain ⟨ρ, τ, h, G, to⟩ := q
  unfold sExpr at to
  cases e : f τ h with
  | bad => simp only [e] at to; exact to.elim
  | ok t h' => simp only [e] at to; exact ⟨ρ, τ, h, t, h', G, e, ⟨fun ρ' H' v ev hr r => to ρ' H' σ ev hr (G.sl.ev ev.toEvR)⟩⟩
theorem xsPass {pos : Pos} : PS X (.Pass pos) (TMS Y sNil) := ps_imp ps_pass fun D σ H q => by
  obtain ⟨ρ, τ, h, G, to⟩ := q
  exact to ρ H σ .refl G.hr G.sl
def sBad : MS := fun _ _ => .bad
theorem xsBad {st : Stmt} : PS X st (TMS Y sBad) := ps_imp ps_never fun D σ H q => by
  obtain ⟨ρ, τ, h, G, to⟩ := q
  exact to.elim
def sBrk : MS := fun τ h => .bk τ h
def sCont : MS := fun τ h => .ct τ h
theorem xsBrk {pos : Pos} : PS X (.Break pos) (TMS Y sBrk) := ps_imp ps_break fun D σ H q => by
  obtain ⟨ρ, τ, h, G, to⟩ := q
  exact to ρ H σ .refl G.hr G.sl
theorem xsCont {pos : Pos} : PS X (.Continue pos) (TMS Y sCont) := ps_imp ps_continue fun D σ H q => by
  obtain ⟨ρ, τ, h, G, to⟩ := q
  exact to ρ H σ .refl G.hr G.sl
def sIf (c : MB) (f g : MS) : MS := fun τ h => match c τ h with
  | .ok true h1 => f τ h1
  | .ok false h1 => g τ h1
  | .bad => .bad
theorem xsIf {c : Expr} {a b : List Stmt} {m : MB} {f g : MS} {pos : Pos} (hc : PT X c (TMB Y m)) (ha : PSs X a (TMS Y f)) (hb : PSs X b (TMS Y g)) : PS X (.If c a b pos) (TMS Y (sIf m f g)) := ps_imp (ps_if hc ha hb) fun D σ H q => by
  obtain ⟨ρ, τ, h, G, to⟩ := q
  unfold sIf at to
  split at to
  · rename_i h1 e1
    exact ⟨ρ, τ, h, true, h1, G, e1, ⟨fun ρ1 H1 k ev hr ek => by subst ek; exact iteT ⟨ρ1, τ, h1, G.ev ev hr, to.ev ev⟩⟩⟩
  · rename_i h1 e1
    exact ⟨ρ, τ, h, false, h1, G, e1, ⟨fun ρ1 H1 k ev hr ek => by subst ek; exact iteF ⟨ρ1, τ, h1, G.ev ev hr, to.ev ev⟩⟩⟩
  · exact to.elim

/-! ### targets -/
abbrev MG := T → TS_ → VH → Res TS_
abbrev MGs := List T → TS_ → VH → Res TS_
def TMG (Y : Wd) (g : MG) : TG := fun v σ H Q => ∃ ρ τ h t τ' h', Go Y ρ H τ σ h ∧ Rp Y ρ H t v ∧ g t τ h = .ok τ' h' ∧ ∀ ρ' H' σ', Ev ρ H ρ' H' → HR Y ρ' H' h' → Sl Y ρ' H' τ' σ' → Q σ' H'
def TMGs (Y : Wd) (g : MGs) : TGs := fun v σ H Q => ∃ ρ τ h t τ' h', Go Y ρ H τ σ h ∧ Rps Y ρ H t v ∧ g t τ h = .ok τ' h' ∧ ∀ ρ' H' σ', Ev ρ H ρ' H' → HR Y ρ' H' h' → Sl Y ρ' H' τ' σ' → Q σ' H'
theorem pg_imp {e : Expr} {t t' : TG} (h : PG X e t) (i : ∀ v σ H Q, t' v σ H Q → t v σ H Q) : PG X e t' := ⟨fun pins s σ H v u Q I r q => h.run pins s σ H v u Q I r (i _ _ _ _ q)⟩
theorem pgs_imp {e : List Expr} {t t' : TGs} (h : PGs X e t) (i : ∀ v σ H Q, t' v σ H Q → t v σ H Q) : PGs X e t' := ⟨fun pins s σ H v u Q I r q => h.run pins s σ H v u Q I r (i _ _ _ _ q)⟩
def mgName (i : Nat) : MG := fun t τ h => .ok (τ.set i (some t)) h
theorem xgName {i : Nat} {x : Str} {pos : Pos} (hN : X.N.Nodup) (hi : X.N[i]? = some x) (hx : Loc X.env.scope x) (hf : X.fn x = true ∨ X.env.scope.names.lookup x = some .local := by first | exact .inl rfl | exact .inr rfl | assumption) : PG X (.Name x pos) (TMG Y (mgName i)) :=
  pg_imp (pg_name hN hi hx hf) fun v σ H Q q => by
    obtain ⟨ρ, τ, h, t, τ', h', G, r, e, to⟩ := q
    cases e
    exact to ρ H _ .refl G.hr (G.sl.set i r)
def mgsNil : MGs := fun ts τ h => match ts with
  | [] => .ok τ h
  | _ => .bad
def mgsCons (g : MG) (gs : MGs) : MGs := fun ts τ h => match ts with
  | t :: r => (match g t τ h with
    | .ok τ' h' => gs r τ' h'
    | .bad => .bad)
  | _ => .bad
theorem xgsNil : PGs X [] (TMGs Y mgsNil) := pgs_imp pgs_nil fun v σ H Q q => by
  obtain ⟨ρ, τ, h, t, τ', h', G, r, e, to⟩ := q
  cases r with
  | nil => cases e; exact ⟨rfl, to ρ H _ .refl G.hr G.sl⟩
  | cons a b => cases e
theorem xgsCons {e : Expr} {es : List Expr} {g : MG} {gs : MGs} (h1 : PG X e (TMG Y g)) (h2 : PGs X es (TMGs Y gs)) (hs : (assignEach (e :: es) X.env).map (·.2) = assign e X.env :: (assignEach es X.env).map (·.2) := by rfl) : PGs X (e :: es) (TMGs Y (mgsCons g gs)) :=
  pgs_imp (pgs_cons h1 h2 hs) fun v σ H Q q => by
    obtain ⟨ρ, τ, h, t, τ', h', G, r, e, to⟩ := q
    cases r with
    | nil => cases e
    | cons a b =>
      unfold mgsCons at e
      dsimp only at e
      split at e
      · rename_i τ1 h1 e1
        exact ⟨_, _, rfl, ρ, τ, h, _, τ1, h1, G, a, e1, fun ρ1 H1 σ1 ev hr sl => ⟨ρ1, τ1, h1, _, τ', h', ⟨sl, hr⟩, b.ev ev.toEvR, e, fun ρ2 H2 σ2 ev2 => to ρ2 H2 σ2 (ev.trans ev2)⟩⟩
      · cases e
def mgTup (n : Nat) (gs : MGs) : MG := fun t τ h => match t with
  | .tup ts => if ts.length = n then gs ts τ h else .bad
  | _ => .bad
theorem xgTup {es : List Expr} {k : Nat} {gs : MGs} {n : Nat} {pos : Pos} (hc : X.calm = true) (hK : X.K = Y.K) (h : PGs X es (TMGs Y gs)) (hn : (assignEach es X.env).length = n := by rfl) (hst : (assignEach es X.env).findIdx? (·.1) = none := by rfl) : PG X (.Tuple es k pos) (TMG Y (mgTup n gs)) :=
  pg_imp (pg_tup hc h hn hst) fun v σ H Q q => by
    obtain ⟨ρ, τ, h, t, τ', h', G, r, e, to⟩ := q
    unfold mgTup at e
    split at e
    · split at e
      · rename_i ts hl
        cases r with
        | tup ta rs => exact ⟨_, _, rfl, by rw [hK]; exact ta.sq, by rw [rs.length]; exact hl, ρ, τ, h, ts, τ', h', G, rs, e, to⟩
      · cases e
    · cases e
/-- o[i] = v, by values -/
def ST (Y : Wd) (r : TSet) (b : T → T → T → VH → Res Unit) : Prop := ∀ ρ H o i t vo vi v h h' Q, Rp Y ρ H o vo → Rp Y ρ H i vi → Rp Y ρ H t v → HR Y ρ H h → b o i t h = .ok () h' → (∀ ρ' H', Ev ρ H ρ' H' → HR Y ρ' H' h' → Q H') → r vo vi v H Q
def mgSub (b : T → T → T → VH → Res Unit) (fo fi : ME) : MG := fun t τ h => match fo τ h with
  | .ok o h1 => (match fi τ h1 with
    | .ok i h2 => (match b o i t h2 with
      | .ok _ h3 => .ok τ h3
      | .bad => .bad)
    | .bad => .bad)
  | .bad => .bad
theorem xgSub {o i : Expr} {fo fi : ME} {r : TSet} {b : T → T → T → VH → Res Unit} {pos : Pos} (st : ST Y r b) (ho : PE X o (TM Y fo)) (hi : PE X i (TM Y fi)) (hs : PSet X r)
    (ha : ∀ v, assign (.Subscript o i pos) X.env v = (do
      let ov ← holding [v] (eval o X.env)
      let iv ← holding [v, ov] (eval i X.env)
      standAt pos
      holding [v, ov, iv] (setItem ov iv v)
      release [v, ov, iv] []) := by intro _; rfl) : PG X (.Subscript o i pos) (TMG Y (mgSub b fo fi)) :=
  pg_imp (pg_sub ho hi hs ha) fun v σ H Q q => by
    obtain ⟨ρ, τ, h, t, τ', h', G, r, e, to⟩ := q
    unfold mgSub at e
    cases e1 : fo τ h with
    | bad => simp only [e1] at e; cases e
    | ok ot h1 =>
      simp only [e1] at e
      cases e2 : fi τ h1 with
      | bad => simp only [e2] at e; cases e
      | ok it h2 =>
        simp only [e2] at e
        cases e3 : b ot it t h2 with
        | bad => simp only [e3] at e; cases e
        | ok u h3 =>
          simp only [e3] at e
          cases e
          refine ⟨ρ, τ, h, ot, h1, G, e1, ⟨fun ρ1 H1 vo ev hr1 ro => ⟨ρ1, τ, h1, it, h2, G.ev ev hr1, e2, ⟨fun ρ2 H2 vi ev2 hr2 ri => ?_⟩⟩⟩⟩
          exact st ρ2 H2 ot it t vo vi v h2 _ _ (ro.ev ev2.toEvR) ri (r.ev (ev.trans ev2).toEvR) hr2 e3 fun ρ3 H3 ev3 hr3 => to ρ3 H3 σ ((ev.trans ev2).trans ev3) hr3 (G.sl.ev ((ev.trans ev2).trans ev3).toEvR)
def sAsg (f : ME) (g : MG) : MS := fun τ h => match f τ h with
  | .ok t h1 => (match g t τ h1 with
    | .ok τ' h' => .nx τ' h'
    | .bad => .bad)
  | .bad => .bad
theorem tms_asg {f : ME} {g : MG} {D : Ends} {σ : St} {H : Hp} (q : TMS Y (sAsg f g) D σ H) : TM Y f σ H fun x H1 => TMG Y g x σ H1 D.nx := by
  obtain ⟨ρ, τ, h, G, to⟩ := q
  unfold sAsg at to
  cases e1 : f τ h with
  | bad => simp only [e1] at to; exact to.elim
  | ok t h1 =>
    simp only [e1] at to
    refine ⟨ρ, τ, h, t, h1, G, e1, ⟨fun ρ1 H1 v ev hr r => ?_⟩⟩
    cases e2 : g t τ h1 with
    | bad => simp only [e2] at to; exact to.elim
    | ok τ' h' =>
      simp only [e2] at to
      exact ⟨ρ1, τ, h1, t, τ', h', G.ev ev hr, r, e2, fun ρ2 H2 σ2 ev2 hr2 sl2 => to ρ2 H2 σ2 (ev.trans ev2) hr2 sl2⟩
theorem xsAsg {tg e : Expr} {f : ME} {g : MG} {pos : Pos} (he : PE X e (TM Y f)) (hg : PG X tg (TMG Y g)) (hs : swapsWithSole [tg] e pos.line X.env = pure false := by rfl) (hw : swappedStores [tg] e X.env = pure none := by rfl)
    (h1 : (assignEach [tg] X.env).map (·.2) = [assign tg X.env] := by rfl) : PS X (.Assign [tg] e pos) (TMS Y (sAsg f g)) := ps_imp (ps_asg he hg hs hw h1) fun D σ H q => tms_asg q
def sSet (i : Nat) (f : ME) : MS := fun τ h => match f τ h with
  | .ok t h1 => .nx (τ.set i (some t)) h1
  | .bad => .bad
theorem tms_set {i : Nat} {f : ME} {D : Ends} {σ : St} {H : Hp} (q : TMS Y (sSet i f) D σ H) : TM Y f σ H fun x H1 => D.nx (σ.set i (some x)) H1 := by
  obtain ⟨ρ, τ, h, G, to⟩ := q
  unfold sSet at to
  cases e1 : f τ h with
  | bad => simp only [e1] at to; exact to.elim
  | ok t h1 =>
    simp only [e1] at to
    exact ⟨ρ, τ, h, t, h1, G, e1, ⟨fun ρ1 H1 v ev hr r => to ρ1 H1 _ ev hr ((G.sl.ev ev.toEvR).set i r)⟩⟩
theorem xsSet {i : Nat} {x : Str} {e : Expr} {f : ME} {pos pos' : Pos} (hN : X.N.Nodup) (hi : X.N[i]? = some x) (hx : Loc X.env.scope x) (he : PE X e (TM Y f)) (hs : swapsWith e (some (.Name x pos')) pos.line X.env = pure false := by rfl) (hf : X.fn x = true ∨ X.env.scope.names.lookup x = some .local := by first | exact .inl rfl | exact .inr rfl | assumption) :
    PS X (.Assign [.Name x pos'] e pos) (TMS Y (sSet i f)) := ps_imp (ps_set hN hi hx he hs hf) fun D σ H q => tms_set q
/-- a, b = x, y with plain local names -/
def sPar (i j : Nat) (g : MA) : MS := fun τ h => match g τ h with
  | .ok [t, u] h1 => .nx ((τ.set i (some t)).set j (some u)) h1
  | _ => .bad
theorem xsPar {i j : Nat} {x y : Str} {a b : Expr} {g : MA} {px py pt pos : Pos} {kt k2 pt2} (hc : X.calm = true) (hN : X.N.Nodup) (hi : X.N[i]? = some x) (hj : X.N[j]? = some y) (hij : i ≠ j)
    (hx : X.env.scope.names.lookup x = some .local) (hy : X.env.scope.names.lookup y = some .local) (ha : PA X [a, b] (TMA Y g))
    (hw : swappedStores [.Tuple [.Name x px, .Name y py] kt pt] (.Tuple [a, b] k2 pt2) X.env = pure (some [x, y]) := by rfl)
    (hs : swapsWithSole [.Tuple [.Name x px, .Name y py] kt pt] (.Tuple [a, b] k2 pt2) pos.line X.env = pure false := by rfl) :
    PS X (.Assign [.Tuple [.Name x px, .Name y py] kt pt] (.Tuple [a, b] k2 pt2) pos) (TMS Y (sPar i j g)) := ps_imp (ps_par hc hN hi hj hij hx hy ha hw hs) fun D σ H q => by
  obtain ⟨ρ, τ, h, G, to⟩ := q
  unfold sPar at to
  split at to
  · rename_i t u h1 e1
    refine ⟨ρ, τ, h, [t, u], h1, G, e1, ⟨fun ρ1 H1 vs ev hr r => ?_⟩⟩
    cases r with
    | cons r1 r2 =>
      cases r2 with
      | cons r2 r3 =>
        cases r3
        exact ⟨_, _, rfl, to ρ1 H1 _ ev hr (((G.sl.ev ev.toEvR).set i r1).set j r2)⟩
  · exact to.elim

/-! ### what is walked -/
abbrev MI := TS_ → VH → Res (VH → Option (List T))
/-- J walks what rd tells, from (ρ, H) on -/
structure Wk (Y : Wd) (J : It) (rd : VH → Option (List T)) (ρ0 : Rh) (H0 : Hp) : Prop where
  go : ∀ ρ H h ts i t, EvR ρ0 H0 ρ H → HR Y ρ H h → rd h = some ts → ts[i]? = some t → J.go i H ∧ ∀ x H', J.yld i H x H' → Ev ρ H ρ H' ∧ HR Y ρ H' h ∧ Rp Y ρ H' t x
  stop : ∀ ρ H h ts i, EvR ρ0 H0 ρ H → HR Y ρ H h → rd h = some ts → ts.length ≤ i → J.stop i H
def TMI (Y : Wd) (f : MI) : TI := fun σ H R => ∃ ρ τ h rd h', Go Y ρ H τ σ h ∧ f τ h = .ok rd h' ∧ ∀ ρ' H' J, Ev ρ H ρ' H' → HR Y ρ' H' h' → Wk Y J rd ρ' H' → R J H'
theorem pi_imp {tg e : Expr} {t t' : TI} (h : PI X tg e t) (i : ∀ σ H Q, t' σ H Q → t σ H Q) : PI X tg e t' := ⟨fun pins s σ H R I q => h.run pins s σ H R I (i _ _ _ q)⟩

/-- the turns of a loop: n in all, k to go, at i -/
def forL (rd : VH → Option (List T)) (g : MG) (body : MS) (n : Nat) : Nat → Nat → TS_ → VH → Out
  | 0, _, τ, h => match rd h with
    | some ts => if ts.length = n then .nx τ h else .bad
    | none => .bad
  | k + 1, i, τ, h => match rd h with
    | some ts => if ts.length = n then (match ts[i]? with
      | some t => (match g t τ h with
        | .ok τ1 h1 => (match body τ1 h1 with
          | .nx τ2 h2 => forL rd g body n k (i + 1) τ2 h2
          | .ct τ2 h2 => forL rd g body n k (i + 1) τ2 h2
          | .bk τ2 h2 => .nx τ2 h2
          | o => o)
        | .bad => .bad)
      | none => .bad) else .bad
    | none => .bad
def sFor (mi : MI) (g : MG) (body : MS) : MS := fun τ h => match mi τ h with
  | .ok rd h1 => (match rd h1 with
    | some ts => forL rd g body ts.length ts.length 0 τ h1
    | none => .bad)
  | .bad => .bad
theorem tms_for {mi : MI} {g : MG} {body : MS} {D : Ends} {σ : St} {H : Hp} (q : TMS Y (sFor mi g body) D σ H) : tFor (TMI Y mi) (TMG Y g) (TMS Y body) D σ H := by
  obtain ⟨ρ, τ, h, G, to⟩ := q
  unfold sFor at to
  cases e1 : mi τ h with
  | bad => simp only [e1] at to; exact to.elim
  | ok rd h1 =>
    simp only [e1] at to
    refine ⟨ρ, τ, h, rd, h1, G, e1, fun ρ1 H1 J ev hr wk => ?_⟩
    cases e2 : rd h1 with
    | none => simp only [e2] at to; exact to.elim
    | some ts0 =>
      simp only [e2] at to
      refine ⟨fun i m σ H => i + m = ts0.length ∧ ∃ ρ2 τ2 h2, Ev ρ1 H1 ρ2 H ∧ Go Y ρ2 H τ2 σ h2 ∧ OutTo Y ρ2 H (forL rd g body ts0.length m i τ2 h2) D, ⟨ts0.length, by omega, ρ1, τ, h1, .refl, G.ev ev hr, to.ev ev⟩, ?_⟩
      rintro i m σ2 H2 ⟨him, ρ2, τ2, h2, ev2, G2, to2⟩
      cases m with
      | zero =>
        unfold forL at to2
        split at to2
        · rename_i ts ets
          split at to2
          · rename_i hl
            exact .inl ⟨wk.stop ρ2 H2 h2 ts i ev2.toEvR G2.hr ets (by omega), to2 ρ2 H2 σ2 .refl G2.hr G2.sl⟩
          · exact to2.elim
        · exact to2.elim
      | succ m =>
        unfold forL at to2
        split at to2
        · rename_i ts ets
          split at to2
          · rename_i hl
            split at to2
            · rename_i t et
              obtain ⟨go, yl⟩ := wk.go ρ2 H2 h2 ts i t ev2.toEvR G2.hr ets et
              refine .inr ⟨go, fun σ' H' => ∃ ρ3 τ3 h3, Ev ρ1 H1 ρ3 H' ∧ Go Y ρ3 H' τ3 σ' h3 ∧ OutTo Y ρ3 H' (forL rd g body ts0.length m (i + 1) τ3 h3) D, fun σ' H' hh => ⟨m, by omega, by omega, hh⟩, fun x H3 hy => ?_⟩
              obtain ⟨ev3, hr3, r3⟩ := yl x H3 hy
              split at to2
              · rename_i τ4 h4 e4
                refine ⟨ρ2, τ2, h2, t, τ4, h4, ⟨G2.sl.ev ev3.toEvR, hr3⟩, r3, e4, fun ρ5 H5 σ5 ev5 hr5 sl5 => ⟨ρ5, τ4, h4, ⟨sl5, hr5⟩, ?_⟩⟩
                have to3 := to2.ev (ev3.trans ev5)
                have evv := ev2.trans (ev3.trans ev5)
                cases e6 : body τ4 h4 with
                | nx τ6 h6 =>
                  simp only [e6] at to3
                  exact fun ρ7 H7 σ7 ev7 hr7 sl7 => ⟨ρ7, τ6, h6, evv.trans ev7, ⟨sl7, hr7⟩, to3.ev ev7⟩
                | ct τ6 h6 =>
                  simp only [e6] at to3
                  exact fun ρ7 H7 σ7 ev7 hr7 sl7 => ⟨ρ7, τ6, h6, evv.trans ev7, ⟨sl7, hr7⟩, to3.ev ev7⟩
                | bk τ6 h6 =>
                  simp only [e6] at to3
                  exact to3
                | rt t6 h6 =>
                  simp only [e6] at to3
                  exact to3
                | bad =>
                  simp only [e6] at to3
                  exact to3.elim
              · exact to2.elim
            · exact to2.elim
          · exact to2.elim
        · exact to2.elim
theorem xsFor {tg iter : Expr} {body : List Stmt} {mi : MI} {g : MG} {f : MS} {pos : Pos} (hp : PassesOwn (model X.prog X.w) X.A X.env X.xe) (hc : X.calm = true) (hi : PI X tg iter (TMI Y mi)) (hg : PG X tg (TMG Y g)) (hb : PSs X body (TMS Y f))
    (hs : ∀ x, foldedSetIterable iter X.env x = pure x := by intro _; rfl) : PS X (.For tg iter body [] pos) (TMS Y (sFor mi g f)) := ps_imp (ps_for hp hc hi hg hb hs) fun D σ H q => tms_for q

/-! ### while, by fuel -/
def whileL (c : MB) (body : MS) : Nat → TS_ → VH → Out
  | 0, _, _ => .bad
  | k + 1, τ, h => match c τ h with
    | .ok false h1 => .nx τ h1
    | .ok true h1 => (match body τ h1 with
      | .nx τ2 h2 => whileL c body k τ2 h2
      | .ct τ2 h2 => whileL c body k τ2 h2
      | .bk τ2 h2 => .nx τ2 h2
      | o => o)
    | .bad => .bad
theorem xsWhile {c : Expr} {body : List Stmt} {m : MB} {f : MS} {pos : Pos} (n : Nat) (hp : PassesOwn (model X.prog X.w) X.A X.env X.xe) (hc : PT X c (TMB Y m)) (hb : PSs X body (TMS Y f)) : PS X (.While c body [] pos) (TMS Y (whileL m f n)) := ps_imp (ps_while hp hc hb) fun D σ H q => by
  refine ⟨fun k σ H => ∃ ρ τ h, Go Y ρ H τ σ h ∧ OutTo Y ρ H (whileL m f k τ h) D, ⟨n, q⟩, ?_⟩
  rintro k σ1 H1 ⟨ρ, τ, h, G, to⟩
  cases k with
  | zero => exact to.elim
  | succ k =>
    unfold whileL at to
    split at to
    · rename_i h1 e1
      exact ⟨ρ, τ, h, false, h1, G, e1, ⟨fun ρ1 H1 b ev hr eb => by subst eb; exact iteF (to ρ1 H1 σ1 ev hr (G.sl.ev ev.toEvR))⟩⟩
    · rename_i h1 e1
      refine ⟨ρ, τ, h, true, h1, G, e1, ⟨fun ρ1 H2 b ev hr eb => ?_⟩⟩
      subst eb
      refine iteT ⟨fun σ' H' => ∃ ρ3 τ3 h3, Go Y ρ3 H' τ3 σ' h3 ∧ OutTo Y ρ3 H' (whileL m f k τ3 h3) D, fun σ' H' hh => ⟨k, by omega, hh⟩, ρ1, τ, h1, G.ev ev hr, ?_⟩
      have to3 := to.ev ev
      cases e6 : f τ h1 with
      | nx τ6 h6 =>
        simp only [e6] at to3
        exact fun ρ7 H7 σ7 ev7 hr7 sl7 => ⟨ρ7, τ6, h6, ⟨sl7, hr7⟩, to3.ev ev7⟩
      | ct τ6 h6 =>
        simp only [e6] at to3
        exact fun ρ7 H7 σ7 ev7 hr7 sl7 => ⟨ρ7, τ6, h6, ⟨sl7, hr7⟩, to3.ev ev7⟩
      | bk τ6 h6 => simp only [e6] at to3; exact to3
      | rt t6 h6 => simp only [e6] at to3; exact to3
      | bad => simp only [e6] at to3; exact to3.elim
    · exact to.elim

/-! ### comprehensions -/
def wipeT (τ : TS_) : List Nat → TS_
  | [] => τ
  | v :: vs => (wipeT τ vs).set v none
theorem Sl.unset {ρ : Rh} {H : Hp} {τ : TS_} {σ : St} (s : Sl Y ρ H τ σ) (i : Nat) : Sl Y ρ H (τ.set i none) (σ.set i none) := by
  refine ⟨by simp [s.1], fun j t' h => ?_⟩
  by_cases hj : i = j
  · subst hj
    have hi : i < τ.length := by
      have := (List.getElem?_eq_some_iff.mp h).1
      simpa using this
    rw [List.getElem?_set_self hi] at h
    cases h
  · rw [List.getElem?_set_ne hj] at h ⊢
    exact s.2 j t' h
theorem Sl.wipe {ρ : Rh} {H : Hp} {τ : TS_} {σ : St} (s : Sl Y ρ H τ σ) : ∀ vs : List Nat, Sl Y ρ H (wipeT τ vs) (wipe σ vs)
  | [] => s
  | v :: vs => (s.wipe vs).unset v
/-- a target of names, for a comprehension: the slots stored are among vs -/
def GOnly (g : TG) (vs : List Nat) : Prop := ∀ v σ0 σ H (Q : St → Hp → Prop), wipe σ vs = wipe σ0 vs → g v σ H Q → g v σ H fun σ2 H2 => wipe σ2 vs = wipe σ0 vs ∧ Q σ2 H2
theorem set_same {α : Type} (l : List α) (i : Nat) (a b : α) : (l.set i a).set i b = l.set i b := by simp
theorem wipe_set {σ : St} {v : V} : ∀ {vs : List Nat} {i : Nat}, i ∈ vs → wipe (σ.set i (some v)) vs = wipe σ vs
  | w :: vs, i, h => by
    unfold wipe
    by_cases hi : i = w
    · subst hi
      by_cases hm : i ∈ vs
      · rw [wipe_set hm]
      · have : ∀ (us : List Nat), i ∉ us → wipe (σ.set i (some v)) us = (wipe σ us).set i (some v) := by
          intro us
          induction us with
          | nil => intro _; rfl
          | cons u us ih =>
            intro hu
            unfold wipe
            rw [ih (fun z => hu (List.mem_cons_of_mem _ z)), List.set_comm _ _ (fun z => hu (by rw [z]; exact List.mem_cons_self))]
        rw [this vs hm, set_same]
    · rw [wipe_set ((List.mem_cons.mp h).resolve_left hi)]
theorem gonly_name {i : Nat} {vs : List Nat} (h : i ∈ vs) : GOnly (gName i) vs := fun v σ0 σ H Q e q => ⟨by rw [wipe_set h]; exact e, q⟩
def GsOnly (g : TGs) (vs : List Nat) : Prop := ∀ v σ0 σ H (Q : St → Hp → Prop), wipe σ vs = wipe σ0 vs → g v σ H Q → g v σ H fun σ2 H2 => wipe σ2 vs = wipe σ0 vs ∧ Q σ2 H2
theorem gsonly_nil {vs : List Nat} : GsOnly gNil vs := fun v σ0 σ H Q e q => ⟨q.1, e, q.2⟩
end
end TL

set_option Elab.async false
set_option linter.all false
set_option maxRecDepth 100000
set_option maxHeartbeats 4000000
namespace TL
open PySem PySem.Spec L2
open PyProof.Rows (envOfC)
section
variable {X : Cx} {Y : Wd}
/-! ### a comprehension's target: names among vs -/
def TMGW (Y : Wd) (g : MG) (ws : List Nat) : TG := fun v σ H Q => ∃ ρ τ h t τ' h', Go Y ρ H τ σ h ∧ Rp Y ρ H t v ∧ g t τ h = .ok τ' h' ∧ ∀ ρ' H' σ', Ev ρ H ρ' H' → HR Y ρ' H' h' → Sl Y ρ' H' τ' σ' → wipe σ' ws = wipe σ ws → Q σ' H'
def TMGsW (Y : Wd) (g : MGs) (ws : List Nat) : TGs := fun v σ H Q => ∃ ρ τ h t τ' h', Go Y ρ H τ σ h ∧ Rps Y ρ H t v ∧ g t τ h = .ok τ' h' ∧ ∀ ρ' H' σ', Ev ρ H ρ' H' → HR Y ρ' H' h' → Sl Y ρ' H' τ' σ' → wipe σ' ws = wipe σ ws → Q σ' H'
theorem wgName {i : Nat} {ws : List Nat} {x : Str} {pos : Pos} (hm : i ∈ ws) (hN : X.N.Nodup) (hi : X.N[i]? = some x) (hx : Loc X.env.scope x) (hf : X.fn x = true ∨ X.env.scope.names.lookup x = some .local := by first | exact .inl rfl | exact .inr rfl | assumption) : PG X (.Name x pos) (TMGW Y (mgName i) ws) :=
  pg_imp (pg_name hN hi hx hf) fun v σ H Q q => by
    obtain ⟨ρ, τ, h, t, τ', h', G, r, e, to⟩ := q
    cases e
    exact to ρ H _ .refl G.hr (G.sl.set i r) (wipe_set hm)
theorem wgsNil {ws : List Nat} : PGs X [] (TMGsW Y mgsNil ws) := pgs_imp pgs_nil fun v σ H Q q => by
  obtain ⟨ρ, τ, h, t, τ', h', G, r, e, to⟩ := q
  cases r with
  | nil => cases e; exact ⟨rfl, to ρ H _ .refl G.hr G.sl rfl⟩
  | cons a b => cases e
theorem wgsCons {ws : List Nat} {e : Expr} {es : List Expr} {g : MG} {gs : MGs} (h1 : PG X e (TMGW Y g ws)) (h2 : PGs X es (TMGsW Y gs ws)) (hs : (assignEach (e :: es) X.env).map (·.2) = assign e X.env :: (assignEach es X.env).map (·.2) := by rfl) : PGs X (e :: es) (TMGsW Y (mgsCons g gs) ws) :=
  pgs_imp (pgs_cons h1 h2 hs) fun v σ H Q q => by
    obtain ⟨ρ, τ, h, t, τ', h', G, r, e, to⟩ := q
    cases r with
    | nil => cases e
    | cons a b =>
      unfold mgsCons at e
      dsimp only at e
      split at e
      · rename_i τ1 h1 e1
        exact ⟨_, _, rfl, ρ, τ, h, _, τ1, h1, G, a, e1, fun ρ1 H1 σ1 ev hr sl w1 => ⟨ρ1, τ1, h1, _, τ', h', ⟨sl, hr⟩, b.ev ev.toEvR, e, fun ρ2 H2 σ2 ev2 hr2 sl2 w2 => to ρ2 H2 σ2 (ev.trans ev2) hr2 sl2 (w2.trans w1)⟩⟩
      · cases e
theorem wgTup {ws : List Nat} {es : List Expr} {k : Nat} {gs : MGs} {n : Nat} {pos : Pos} (hc : X.calm = true) (hK : X.K = Y.K) (h : PGs X es (TMGsW Y gs ws)) (hn : (assignEach es X.env).length = n := by rfl) (hst : (assignEach es X.env).findIdx? (·.1) = none := by rfl) : PG X (.Tuple es k pos) (TMGW Y (mgTup n gs) ws) :=
  pg_imp (pg_tup hc h hn hst) fun v σ H Q q => by
    obtain ⟨ρ, τ, h, t, τ', h', G, r, e, to⟩ := q
    unfold mgTup at e
    split at e
    · split at e
      · rename_i ts hl
        cases r with
        | tup ta rs => exact ⟨_, _, rfl, by rw [hK]; exact ta.sq, by rw [rs.length]; exact hl, ρ, τ, h, ts, τ', h', G, rs, e, to⟩
      · cases e
    · cases e
/-! ### a clause's tests -/
def bYes : MB := fun _ h => .ok true h
theorem pts_imp {e : List Expr} {t t' : TT} (h : PTs X e t) (i : ∀ σ H Q, t' σ H Q → t σ H Q) : PTs X e t' := ⟨fun pins s σ H Q I q => h.run pins s σ H Q I (i _ _ _ q)⟩
theorem xtsNil : PTs X [] (TMB Y bYes) := pts_imp pts_nil fun σ H Q q => by
  obtain ⟨ρ, τ, h, u, h', G, e, to⟩ := q
  cases e
  exact to.to ρ H _ .refl G.hr rfl
theorem xtsOne {c : Expr} {m : MB} (h : PT X c (TMB Y m)) : PTs X [c] (TMB Y m) := pts_one h

/-- the turns of a comprehension -/
def lcL (rd : VH → Option (List T)) (g : MG) (c : MB) (e : ME) (τ : TS_) (n : Nat) : Nat → Nat → List T → VH → Res (List T)
  | 0, _, acc, h => match rd h with
    | some ts => if ts.length = n then .ok acc h else .bad
    | none => .bad
  | k + 1, i, acc, h => match rd h with
    | some ts => if ts.length = n then (match ts[i]? with
      | some t => (match g t τ h with
        | .ok τ1 h1 => (match c τ1 h1 with
          | .ok true h2 => (match e τ1 h2 with
            | .ok y h3 => lcL rd g c e τ n k (i + 1) (acc ++ [y]) h3
            | .bad => .bad)
          | .ok false h2 => lcL rd g c e τ n k (i + 1) acc h2
          | .bad => .bad)
        | .bad => .bad)
      | none => .bad) else .bad
    | none => .bad
def mLc (mi : MI) (ws : List Nat) (g : MG) (c : MB) (e : ME) : MA := fun τ h => match mi τ h with
  | .ok rd h1 => (match rd h1 with
    | some ts => if ts.length ≤ 16777216 then lcL rd g c e (wipeT τ ws) ts.length ts.length 0 [] h1 else .bad
    | none => .bad)
  | .bad => .bad
theorem wipe_idem (σ : St) : ∀ ws : List Nat, wipe (wipe σ ws) ws = wipe σ ws := by
  have one : ∀ (ws : List Nat) (u : Nat), u ∈ ws → (wipe σ ws).set u none = wipe σ ws := by
    intro ws u
    induction ws with
    | nil => intro hm; cases hm
    | cons w ws ih2 =>
      intro hm
      show ((wipe σ ws).set w none).set u none = (wipe σ ws).set w none
      by_cases hw : u = w
      · subst hw; simp
      · rw [List.set_comm _ _ (fun z => hw z.symm), ih2 ((List.mem_cons.mp hm).resolve_left hw)]
  have key : ∀ (us ws : List Nat), (∀ u ∈ us, u ∈ ws) → wipe (wipe σ ws) us = wipe σ ws := by
    intro us
    induction us with
    | nil => intro ws _; rfl
    | cons u us ih =>
      intro ws h
      show (wipe (wipe σ ws) us).set u none = wipe σ ws
      rw [ih ws fun v hv => h v (List.mem_cons_of_mem _ hv)]
      exact one ws u (h u List.mem_cons_self)
  exact fun ws => key ws ws fun _ h => h
theorem Sl.updb {ρ : Rh} {H : Hp} {τ : TS_} {σ : St} {p : Addr} {o : HO} (hp : p ∈ ρ.bn) (s : Sl Y ρ H τ σ) : Sl Y ρ (upd H p o) τ σ := ⟨s.1, fun i t h => let ⟨v, a, b⟩ := s.2 i t h; ⟨v, a, b.updb hp⟩⟩
theorem ban_split {ρ1 ρ2 ρ' : Rh} {H1 H2 H' : Hp} {D : Addr} (hD : H1 D = none) (a : Ev ρ1 H1 ρ2 H2) (b : Ev (ρ2.ban D) H2 ρ' H') : ∃ ρ8 : Rh, ρ' = ρ8.ban D ∧ Ev ρ1 H1 ρ8 H' := by
  obtain ⟨ix, bn⟩ := ρ'
  have e : bn = D :: ρ2.bn := b.bn
  subst e
  refine ⟨⟨ix, ρ2.bn⟩, rfl, a.trans ?_⟩
  exact .mk' b.more rfl b.keep b.there
theorem Ev.updf {ρ ρ' : Rh} {H H' : Hp} {D : Addr} {o : HO} (hD : H D = none) (e : Ev ρ H ρ' H') : Ev ρ H ρ' (upd H' D o) :=
  .mk' e.more e.bn (fun b u z n => by rw [upd_ne (ne_of_none z hD)]; exact e.keep b u z n) fun b z => by
    by_cases q : b = D
    · rw [q, upd_same]; simp
    · rw [upd_ne q]; exact e.there b z
theorem tm_lc {mi : MI} {g : MG} {c : MB} {e : ME} {ws : List Nat} {σ : St} {H : Hp} {Q : VK} (q : TMF Y (mLc mi ws g c e) σ H Q) : tLc (TMI Y mi) (TMGW Y g ws) (TMB Y c) (TM Y e) ws σ H Q := by
  obtain ⟨ρ, τ, h, ys, h', G, e0, to⟩ := q
  unfold mLc at e0
  cases e1 : mi τ h with
  | bad => simp only [e1] at e0; cases e0
  | ok rd h1 =>
    simp only [e1] at e0
    refine ⟨ρ, τ, h, rd, h1, G, e1, fun ρ1 H1 J ev hr wk => ?_⟩
    cases e2 : rd h1 with
    | none => simp only [e2] at e0; cases e0
    | some ts0 =>
      simp only [e2] at e0
      split at e0
      case isFalse => cases e0
      rename_i hz0
      intro D hD
      have hD0 : H D = none := ev.fresh hD
      have slw : Sl Y ρ1 H1 (wipeT τ ws) (wipe σ ws) := (G.sl.ev ev.toEvR).wipe ws
      have slb : Sl Y (ρ1.ban D) (upd H1 D (.lst [])) (wipeT τ ws) (wipe σ ws) := ⟨slw.1, fun i t ht => let ⟨v, a, b⟩ := slw.2 i t ht; ⟨v, a, (b.ban hD).updb List.mem_cons_self⟩⟩
      have ev0 : Ev ρ1 H1 ρ1 (upd H1 D (.lst [])) := Ev.new hD
      refine ⟨fun i m H => i + m = ts0.length ∧ ∃ ρ2 h2 acc vs, Ev ρ1 H1 ρ2 H ∧ Sl Y (ρ2.ban D) H (wipeT τ ws) (wipe σ ws) ∧ HR Y (ρ2.ban D) H h2 ∧ H D = some (.lst vs) ∧ Rps Y (ρ2.ban D) H acc vs ∧ acc.length ≤ i ∧ lcL rd g c e (wipeT τ ws) ts0.length m i acc h2 = .ok ys h',
        ⟨ts0.length, by omega, ρ1, h1, [], [], ev0, slb, hr.begin hD, upd_same, .nil, Nat.le_refl _, e0⟩, ?_⟩
      rintro i m H2 ⟨him, ρ2, h2, acc, vs, ev2, sl2, hr2, hd2, rs2, hl2, e3⟩
      have mb : D ∈ (ρ2.ban D).bn := List.mem_cons_self
      have nix2 : D ∉ (ρ2.ban D).ix := (hr2.bt D mb).2
      cases m with
      | zero =>
        unfold lcL at e3
        split at e3
        · rename_i ts ets
          split at e3
          · rename_i hl
            cases e3
            have hn : vs.length ≤ sizeLine := by rw [rs2.length, sizeLine_eq]; omega
            have nix : D ∉ ρ2.ix := (hr2.bt D mb).2
            have nb : D ∉ ρ2.bn := fun z => by
              rw [ev2.bn] at z
              exact (hr.bt D z).1 hD
            exact .inl ⟨wk.stop ρ2 H2 _ ts i ev2.toEvR hr2.unban ets (by omega), to ρ2 H2 D vs (ev.trans ev2) hr2.unban hD0 ⟨hn, ⟨nix, nb⟩, hd2⟩ rs2.unban (hr2.topush nb ⟨vs, hd2, hn, rs2.topush⟩)⟩
          · cases e3
        · cases e3
      | succ m =>
        unfold lcL at e3
        split at e3
        · rename_i ts ets
          split at e3
          · rename_i hl
            split at e3
            · rename_i t et
              obtain ⟨go, yl⟩ := wk.go (ρ2.ban D) H2 h2 ts i t (ev2.toEvR.ban hD) hr2 ets et
              refine .inr ⟨go, fun H' => ∃ ρ3 h3 acc3 vs3, Ev ρ1 H1 ρ3 H' ∧ Sl Y (ρ3.ban D) H' (wipeT τ ws) (wipe σ ws) ∧ HR Y (ρ3.ban D) H' h3 ∧ H' D = some (.lst vs3) ∧ Rps Y (ρ3.ban D) H' acc3 vs3 ∧ acc3.length ≤ i + 1 ∧ lcL rd g c e (wipeT τ ws) ts0.length m (i + 1) acc3 h3 = .ok ys h',
                fun H' hh => ⟨m, by omega, by omega, hh⟩, fun x H3 hy => ?_⟩
              obtain ⟨ev3, hr3, r3⟩ := yl x H3 hy
              split at e3
              case h_2 => cases e3
              rename_i τ4 h4 e4
              refine ⟨ρ2.ban D, wipeT τ ws, h2, t, τ4, h4, ⟨sl2.ev ev3.toEvR, hr3⟩, r3, e4, fun ρ5 H5 σ5 ev5 hr5 sl5 w5 => ?_⟩
              refine ⟨by rw [w5]; exact wipe_idem σ ws, ?_⟩
              have ev35 := ev3.trans ev5
              split at e3
              case h_3 => cases e3
              · rename_i h6 e6
                split at e3
                case h_2 => cases e3
                rename_i y h7 e7
                refine ⟨ρ5, τ4, h4, true, h6, ⟨sl5, hr5⟩, e6, ⟨fun ρ6 H6 b ev6 hr6 eb => ?_⟩⟩
                subst eb
                refine iteT ⟨ρ6, τ4, h6, y, h7, ⟨sl5.ev ev6.toEvR, hr6⟩, e7, ⟨fun ρ7 H7 v ev7 hr7 r7 => ?_⟩⟩
                have eva := (ev35.trans ev6).trans ev7
                have hd7 : H7 D = some (.lst vs) := eva.keep D _ hd2 nix2
                obtain ⟨ρ8, rfl, ev8⟩ := ban_split hD ev2 eva
                have mb7 : D ∈ (ρ8.ban D).bn := List.mem_cons_self
                refine ⟨vs, hd7, by rw [rs2.length, sizeLine_eq]; omega, ρ8, h7, acc ++ [y], vs ++ [v], ev8.updf hD, ?_, hr7.updb mb7, upd_same, ((rs2.ev eva.toEvR).snoc r7).updb mb7, by simp; omega, e3⟩
                exact (sl2.ev eva.toEvR).updb mb7
              · rename_i h6 e6
                refine ⟨ρ5, τ4, h4, false, h6, ⟨sl5, hr5⟩, e6, ⟨fun ρ6 H6 b ev6 hr6 eb => ?_⟩⟩
                subst eb
                refine iteF ?_
                have eva := ev35.trans ev6
                have hd7 : H6 D = some (.lst vs) := eva.keep D _ hd2 nix2
                obtain ⟨ρ8, rfl, ev8⟩ := ban_split hD ev2 eva
                exact ⟨ρ8, h6, acc, vs, ev8, sl2.ev eva.toEvR, hr6, hd7, rs2.ev eva.toEvR, by omega, e3⟩
            · cases e3
          · cases e3
        · cases e3

theorem pe_tmf {e : Expr} {t : TE} {f : MA} (h : PE X e t) (i : ∀ σ H Q, TMF Y f σ H Q → t σ H Q) : PE X e (TMF Y f) := pe_imp h i
theorem xLc {elt tg iter : Expr} {ifs : List Expr} {scope : Scope} {own : List (Str × Nat)} {pos : Pos} {mi : MI} {g : MG} {c : MB} {f : ME} (hc : X.calm = true) (hN : X.N.Nodup) (hi : PI X tg iter (TMI Y mi)) (ok : BlkOk X.N X.env.scope scope own)
    (hg : ∀ (s : Shared) (H : Hp) (C : Addr) (cl : List (Str × Addr)) (fp : List Addr), PG (X.blk s H scope (compEnvC scope cl C X.env) fp) tg (TMGW Y g (own.map (·.2)))) (ht : ∀ (s : Shared) (H : Hp) (C : Addr) (cl : List (Str × Addr)) (fp : List Addr), PTs (X.blk s H scope (compEnvC scope cl C X.env) fp) ifs (TMB Y c))
    (he : ∀ (s : Shared) (H : Hp) (C : Addr) (cl : List (Str × Addr)) (fp : List Addr), PE (X.blk s H scope (compEnvC scope cl C X.env) fp) elt (TM Y f)) (hs : ∀ x, foldedSetIterable iter X.env x = pure x := by intro _; rfl) :
    PE X (.ListComp elt [⟨tg, iter, ifs, 0⟩] scope pos) (TMF Y (mLc mi (own.map (·.2)) g c f)) := pe_tmf (pe_lc hc hN hi ok hg ht he hs) fun σ H Q q => tm_lc q
/-- name = [..]: the list is plain, or one that may change -/
theorem xsSetLcL {i : Nat} {y : Str} {py : Pos} {elt tg iter : Expr} {ifs : List Expr} {scope : Scope} {own : List (Str × Nat)} {pos spos : Pos} {mi : MI} {g : MG} {c : MB} {f : ME} (hc : X.calm = true) (hN : X.N.Nodup) (hy : X.N[i]? = some y) (hyl : X.env.scope.names.lookup y = some .local)
    (hsw : swapsWith (.ListComp elt [⟨tg, iter, ifs, 0⟩] scope pos) (some (.Name y py)) spos.line X.env = pure true) (hi : PI X tg iter (TMI Y mi)) (ok : BlkOk X.N X.env.scope scope own)
    (hg : ∀ (s : Shared) (H : Hp) (C : Addr) (cl : List (Str × Addr)) (fp : List Addr), PG (X.blk s H scope (compEnvC scope cl C X.env) fp) tg (TMGW Y g (own.map (·.2)))) (ht : ∀ (s : Shared) (H : Hp) (C : Addr) (cl : List (Str × Addr)) (fp : List Addr), PTs (X.blk s H scope (compEnvC scope cl C X.env) fp) ifs (TMB Y c))
    (he : ∀ (s : Shared) (H : Hp) (C : Addr) (cl : List (Str × Addr)) (fp : List Addr), PE (X.blk s H scope (compEnvC scope cl C X.env) fp) elt (TM Y f)) (hs : ∀ x, foldedSetIterable iter X.env x = pure x := by intro _; rfl) :
    PS X (.Assign [.Name y py] (.ListComp elt [⟨tg, iter, ifs, 0⟩] scope pos) spos) (TMS Y (sSet i (eL (mLc mi (own.map (·.2)) g c f)))) := ps_imp (ps_setLc hc hN hy hyl hsw hi ok hg ht he hs) fun D σ H q => by
  obtain ⟨ρ, τ, h, ts, h', G, e, to⟩ := tms_set q
  unfold eL at e
  cases e1 : mLc mi (own.map (·.2)) g c f τ h with
  | bad => simp only [e1] at e; cases e
  | ok us h1 =>
    simp only [e1] at e
    cases e
    exact tm_lc ⟨ρ, τ, h, us, _, G, e1, fun ρ' H' D' vs ev hr hD la rs _ => to.to ρ' H' _ ev hr (.lst la rs)⟩
theorem xsSetLcH {i : Nat} {y : Str} {py : Pos} {elt tg iter : Expr} {ifs : List Expr} {scope : Scope} {own : List (Str × Nat)} {pos spos : Pos} {mi : MI} {g : MG} {c : MB} {f : ME} (hc : X.calm = true) (hN : X.N.Nodup) (hy : X.N[i]? = some y) (hyl : X.env.scope.names.lookup y = some .local)
    (hsw : swapsWith (.ListComp elt [⟨tg, iter, ifs, 0⟩] scope pos) (some (.Name y py)) spos.line X.env = pure true) (hi : PI X tg iter (TMI Y mi)) (ok : BlkOk X.N X.env.scope scope own)
    (hg : ∀ (s : Shared) (H : Hp) (C : Addr) (cl : List (Str × Addr)) (fp : List Addr), PG (X.blk s H scope (compEnvC scope cl C X.env) fp) tg (TMGW Y g (own.map (·.2)))) (ht : ∀ (s : Shared) (H : Hp) (C : Addr) (cl : List (Str × Addr)) (fp : List Addr), PTs (X.blk s H scope (compEnvC scope cl C X.env) fp) ifs (TMB Y c))
    (he : ∀ (s : Shared) (H : Hp) (C : Addr) (cl : List (Str × Addr)) (fp : List Addr), PE (X.blk s H scope (compEnvC scope cl C X.env) fp) elt (TM Y f)) (hs : ∀ x, foldedSetIterable iter X.env x = pure x := by intro _; rfl) :
    PS X (.Assign [.Name y py] (.ListComp elt [⟨tg, iter, ifs, 0⟩] scope pos) spos) (TMS Y (sSet i (eH (mLc mi (own.map (·.2)) g c f)))) := ps_imp (ps_setLc hc hN hy hyl hsw hi ok hg ht he hs) fun D σ H q => by
  obtain ⟨ρ, τ, h, ts, h', G, e, to⟩ := tms_set q
  unfold eH at e
  cases e1 : mLc mi (own.map (·.2)) g c f τ h with
  | bad => simp only [e1] at e; cases e
  | ok us h1 =>
    simp only [e1] at e
    cases e
    refine tm_lc ⟨ρ, τ, h, us, h1, G, e1, fun ρ' H' D' vs ev hr hD la rs hp => to.to (ρ'.push D') H' _ (.mk' ?_ ev.bn ev.keep ev.there) hp (.ref ?_)⟩
    · obtain ⟨m, em, hm⟩ := ev.more
      refine ⟨m ++ [D'], by simp [Rh.push, em], fun p hp => ?_⟩
      rcases List.mem_append.mp hp with z | z
      · exact hm p z
      · rw [List.mem_singleton.mp z]; exact hD
    · show (ρ'.ix ++ [D'])[_]? = _
      rw [List.getElem?_append_right (by rw [hr.len]; exact Nat.le_refl _), hr.len]
      simp

/-! ### defs -/
/-- what a def promises: what its mirror gives -/
def spM (Y : Wd) (m : List T → VH → Res T) : Sp := fun vs H Q _ => ∃ ρ ts h t h', Rps Y ρ H ts vs ∧ HR Y ρ H h ∧ m ts h = .ok t h' ∧ To Y (Rp Y) ρ H t h' Q
def startT (n : Nat) (ts : List T) : TS_ := ts.map some ++ List.replicate (n - ts.length) none
/-- a def's mirror: its body's, with n slots, p parameters -/
def defM (n p : Nat) (f : MS) : List T → VH → Res T := fun ts h => if ts.length = p then (match f (startT n ts) h with
  | .nx _ h' => .ok .non h'
  | .rt t h' => .ok t h'
  | _ => .bad) else .bad
theorem sl_start {ρ : Rh} {H : Hp} {ts : List T} {vs : List V} {N : List Str} (r : Rps Y ρ H ts vs) : Sl Y ρ H (startT N.length ts) (L2.start N vs) := by
  have hl := r.length
  refine ⟨by simp [startT, L2.start, hl], fun i t e => ?_⟩
  unfold startT at e
  by_cases hi : i < ts.length
  · rw [List.getElem?_append_left (by simpa using hi), List.getElem?_map] at e
    cases q : ts[i]? with
    | none => rw [q] at e; cases e
    | some u =>
      rw [q] at e
      cases e
      obtain ⟨v, hv, rv⟩ := r.get q
      refine ⟨v, ?_, rv⟩
      unfold L2.start
      rw [List.getElem?_append_left (by simp [hl]; exact hi), List.getElem?_map, hv]
      rfl
  · rw [List.getElem?_append_right (by simpa using Nat.le_of_not_lt hi), List.getElem?_replicate] at e
    split at e <;> cases e
/-- the promise of a def whose body has a mirror -/
theorem fnM {P : Program} {w : World} {K : PySem.W.Frag} {mg : Str → Option Value} {base : Heap} {x qual : Str} {params : Arguments} {body : List Stmt} {scope : Scope} {dvs : List V} {kws : List (Str × V)} {f : Addr} {fd : FuncData} {N ps : List Str} {k : Nat} {g : MS}
    (F : FunD K x qual params body scope dvs kws f fd) (S : FnScope N ps scope) (n p : Nat) (hn : N.length = n := by rfl) (hp : ps.length = p := by rfl)
    (hb : ∀ (cdv : Value) (A : Around) (outer : List Env) (s : Shared) (H : Hp) (E : XK), Room k (A.deeper (envOfC qual scope s.heap.objs.size f cdv)) → PSs (cxOf CX0 P w K mg base N qual scope f cdv A outer s H E).nox body (TMS Y g)) :
    FnOk P w K mg base CX0 (k + 1) f fd ps (spM Y (defM n p g)) := by
  subst hn hp
  refine F.ok S (fun vs H Q E h => ?_) (fun cdv A outer s H vs Q E hr h => ⟨TMS Y g, (hb cdv A outer s H E hr).nox, ?_⟩)
  · obtain ⟨ρ, ts, hh, t, h', r, hr, e, to⟩ := h
    unfold defM at e
    split at e
    · rename_i hl
      rw [r.length]; exact hl
    · cases e
  · obtain ⟨ρ, ts, hh, t, h', r, hr, e, to⟩ := h
    unfold defM at e
    split at e
    · rename_i hl
      refine ⟨ρ, startT N.length ts, hh, ⟨sl_start r, hr⟩, ?_⟩
      cases q : g (startT N.length ts) hh with
      | nx τ' h1 =>
        simp only [q] at e
        cases e
        exact fun ρ' H' σ' ev hr' sl => to.to ρ' H' .non ev hr' .non
      | rt u h1 =>
        simp only [q] at e
        cases e
        exact fun ρ' H' v ev hr' r' => to.to ρ' H' v ev hr' r'
      | bk τ' h1 => simp only [q] at e; cases e
      | ct τ' h1 => simp only [q] at e; cases e
      | bad => simp only [q] at e; cases e
    · cases e
/-! ### calls of defs -/
theorem ct_sp {m : List T → VH → Res T} (E : XK) : CT Y (fun vs H Q => spM Y m vs H Q E) m := fun ρ H ts vs h t h' Q r hr e to => ⟨ρ, ts, h, t, h', r, hr, e, to⟩
theorem xCall {k : Nat} {f : Addr} {fd : FuncData} {ps : List Str} {m : List T → VH → Res T} {x : Str} {p pos : Pos} {e : Expr} {es : List Expr} {g : MA} (F : FnOk X.prog X.w X.K X.mg X.base CX0 k f fd ps (spM Y m)) (hr : Room k X.A) (hg : Gl X x) (hm : X.mg x = some (.ref f)) (hk : PySem.W.keepIn X.K (.ref f) = true) (hb : Binds X.K fd ps [])
    (ha : PA X (e :: es) (TMA Y g)) (hdb : (x == ("__debug__" : Str)) = false := by decide) (he : starEach (e :: es) X.env = (false, eval e X.env) :: starEach es X.env := by rfl) (hpl : (backTo pos (starEach es X.env)).any (·.1) = false := by rfl) :
    PE X (.Call (.Name x p) (e :: es) [] pos) (TM Y (eCall m g)) := pe_imp (pe_call F hr hg hm hk hb .nil pass0 ha hdb he hpl) fun σ H Q q => by
  have z := tm_call (ct_sp (m := m) E0) q
  obtain ⟨ρ, τ, h, t, h1, G, e1, to⟩ := z
  exact ⟨ρ, τ, h, t, h1, G, e1, ⟨fun ρ' H' v ev hr r => by rw [List.append_nil]; exact to.to ρ' H' v ev hr r⟩⟩
theorem xCall0 {k : Nat} {f : Addr} {fd : FuncData} {ps : List Str} {m : List T → VH → Res T} {x : Str} {p pos : Pos} (F : FnOk X.prog X.w X.K X.mg X.base CX0 k f fd ps (spM Y m)) (hr : Room k X.A) (hg : Gl X x) (hm : X.mg x = some (.ref f)) (hk : PySem.W.keepIn X.K (.ref f) = true) (hb : Binds X.K fd ps [])
    (hdb : (x == ("__debug__" : Str)) = false := by decide) : PE X (.Call (.Name x p) [] [] pos) (TM Y (eCall m aNil)) := pe_imp (pe_call0 F hr hg hm hk hb .nil pass0 hdb) fun σ H Q q => by
  obtain ⟨ρ, τ, h, t, h1, G, e1, to⟩ := tm_call (ct_sp (m := m) E0) q
  cases e1
  exact to.to ρ H [] .refl G.hr .nil
/-! ### what a call leaves behind is forgotten -/
mutual
def T.lowR (n : Nat) : T → Bool
  | .tup ts => lowRs n ts
  | .arg ts => lowRs n ts
  | .lst ts => lowRs n ts
  | .obj _ fs => lowRs n fs
  | .ref k => decide (k < n)
  | _ => true
def lowRs (n : Nat) : List T → Bool
  | [] => true
  | t :: ts => t.lowR n && lowRs n ts
end
end
end TL

set_option Elab.async false
set_option linter.all false
set_option maxRecDepth 100000
set_option maxHeartbeats 4000000
namespace TL
open PySem PySem.Spec L2
open PyProof.Rows (envOfC)
/-! ### equality of tree values as they stand -/
mutual
def T.eqb : T → T → Bool
  | .non, .non => true
  | .bl a, .bl b => a == b
  | .int a, .int b => a == b
  | .str a, .str b => a == b
  | .tup a, .tup b => T.eqbs a b
  | .arg a, .arg b => T.eqbs a b
  | .lst a, .lst b => T.eqbs a b
  | .obj c a, .obj d b => c == d && T.eqbs a b
  | .ref a, .ref b => a == b
  | _, _ => false
def T.eqbs : List T → List T → Bool
  | [], [] => true
  | a :: as, b :: bs => T.eqb a b && T.eqbs as bs
  | _, _ => false
end
mutual
theorem T.eqb_eq : ∀ {a b : T}, T.eqb a b = true → a = b
  | .non, b, h => by cases b <;> first | rfl | (simp [T.eqb] at h)
  | .bl x, b, h => by cases b <;> first | (simp [T.eqb] at h; done) | (simp [T.eqb] at h; rw [h])
  | .int x, b, h => by cases b <;> first | (simp [T.eqb] at h; done) | (simp [T.eqb] at h; rw [h])
  | .str x, b, h => by cases b <;> first | (simp [T.eqb] at h; done) | (simp [T.eqb] at h; rw [h])
  | .ref x, b, h => by cases b <;> first | (simp [T.eqb] at h; done) | (simp [T.eqb] at h; rw [h])
  | .tup x, b, h => by cases b <;> first | (simp [T.eqb] at h; done) | (simp only [T.eqb] at h; rw [T.eqbs_eq h])
  | .arg x, b, h => by cases b <;> first | (simp [T.eqb] at h; done) | (simp only [T.eqb] at h; rw [T.eqbs_eq h])
  | .lst x, b, h => by cases b <;> first | (simp [T.eqb] at h; done) | (simp only [T.eqb] at h; rw [T.eqbs_eq h])
  | .obj c x, b, h => by cases b <;> first | (simp [T.eqb] at h; done) | (simp only [T.eqb, Bool.and_eq_true, beq_iff_eq] at h; rw [h.1, T.eqbs_eq h.2])
theorem T.eqbs_eq : ∀ {a b : List T}, T.eqbs a b = true → a = b
  | [], [], _ => rfl
  | [], _ :: _, h => by simp [T.eqbs] at h
  | _ :: _, [], h => by simp [T.eqbs] at h
  | a :: as, b :: bs, h => by
    simp only [T.eqbs, Bool.and_eq_true] at h
    rw [T.eqb_eq h.1, T.eqbs_eq h.2]
end
mutual
theorem T.eqb_refl : ∀ a : T, T.eqb a a = true
  | .non => rfl
  | .bl x => by simp [T.eqb]
  | .int x => by simp [T.eqb]
  | .str x => by simp [T.eqb]
  | .ref x => by simp [T.eqb]
  | .tup x => by simp only [T.eqb]; exact T.eqbs_refl x
  | .arg x => by simp only [T.eqb]; exact T.eqbs_refl x
  | .lst x => by simp only [T.eqb]; exact T.eqbs_refl x
  | .obj c x => by simp only [T.eqb, beq_self_eq_true, Bool.true_and]; exact T.eqbs_refl x
theorem T.eqbs_refl : ∀ a : List T, T.eqbs a a = true
  | [] => rfl
  | a :: as => by simp only [T.eqbs, T.eqb_refl a, T.eqbs_refl as, Bool.and_self]
end
def VO.eqb : VO → VO → Bool
  | .lst a, .lst b => T.eqbs a b
  | .ins c a, .ins d b => c == d && T.eqbs a b
  | .dct a, .dct b => T.eqbs (a.map (·.1)) (b.map (·.1)) && T.eqbs (a.map (·.2)) (b.map (·.2))
  | _, _ => false
theorem zip_eq {a b : List (T × T)} (h1 : a.map (·.1) = b.map (·.1)) (h2 : a.map (·.2) = b.map (·.2)) : a = b := by
  induction a generalizing b with
  | nil => cases b with
    | nil => rfl
    | cons _ _ => simp at h1
  | cons x xs ih => cases b with
    | nil => simp at h1
    | cons y ys =>
      simp at h1 h2
      rw [ih h1.2 h2.2, Prod.ext h1.1 h2.1]
theorem VO.eqb_eq {a b : VO} (h : VO.eqb a b = true) : a = b := by
  cases a <;> cases b <;> simp only [VO.eqb, Bool.and_eq_true, beq_iff_eq, Bool.false_eq_true] at h
  · rw [T.eqbs_eq h]
  · rw [h.1, T.eqbs_eq h.2]
  · rw [zip_eq (T.eqbs_eq h.1) (T.eqbs_eq h.2)]
theorem VO.eqb_refl (a : VO) : VO.eqb a a = true := by
  cases a <;> simp [VO.eqb, T.eqbs_refl]
def eqH : VH → VH → Bool
  | [], [] => true
  | a :: as, b :: bs => VO.eqb a b && eqH as bs
  | _, _ => false
theorem eqH_eq : ∀ {a b : VH}, eqH a b = true → a = b
  | [], [], _ => rfl
  | [], _ :: _, h => by simp [eqH] at h
  | _ :: _, [], h => by simp [eqH] at h
  | a :: as, b :: bs, h => by
    simp only [eqH, Bool.and_eq_true] at h
    rw [VO.eqb_eq h.1, eqH_eq h.2]
theorem eqH_refl : ∀ a : VH, eqH a a = true
  | [] => rfl
  | a :: as => by simp only [eqH, VO.eqb_refl a, eqH_refl as, Bool.and_self]

/-! ### forgetting -/
section
variable {Y : Wd} {ρ ρ' : Rh} {H H' : Hp}
mutual
theorem Rp.low : ∀ {t : T} {v : V}, Rp Y ρ H t v → t.lowR ρ.ix.length = true
  | _, _, .non => rfl
  | _, _, .bl b => rfl
  | _, _, .int i => rfl
  | _, _, .str h => rfl
  | _, _, .tup h r => by simp only [T.lowR]; exact r.lows
  | _, _, .arg h r => by simp only [T.lowR]; exact r.lows
  | _, _, .lst h r => by simp only [T.lowR]; exact r.lows
  | _, _, .obj c n h nm r => by simp only [T.lowR]; exact r.lows
  | _, _, .ref h => by simp only [T.lowR]; exact decide_eq_true (List.getElem?_eq_some_iff.mp h).1
theorem Rps.lows : ∀ {ts : List T} {vs : List V}, Rps Y ρ H ts vs → lowRs ρ.ix.length ts = true
  | _, _, .nil => rfl
  | _, _, .cons a b => by simp only [lowRs, a.low, b.lows, Bool.and_self]
end
/-- ρ' is longer than ρ -/
structure Sub (ρ ρ' : Rh) : Prop where
  ix : ∃ m, ρ'.ix = ρ.ix ++ m
  bn : ρ'.bn = ρ.bn
theorem Sub.out (s : Sub ρ ρ') {a : Addr} (h : ρ'.out a) : ρ.out a := by
  obtain ⟨m, e⟩ := s.ix
  exact ⟨fun z => h.1 (by rw [e]; exact List.mem_append_left _ z), fun z => h.2 (by rw [s.bn]; exact z)⟩
mutual
theorem Rp.down (s : Sub ρ ρ') : ∀ {t : T} {v : V}, Rp Y ρ' H t v → t.lowR ρ.ix.length = true → Rp Y ρ H t v
  | _, _, .non, _ => .non
  | _, _, .bl b, _ => .bl b
  | _, _, .int i, _ => .int i
  | _, _, .str h, _ => .str h
  | _, _, .tup h r, q => by simp only [T.lowR] at q; exact .tup ⟨h.1, h.2.elim (fun z => .inl ⟨s.out z.1, z.2⟩) .inr⟩ (r.down s q)
  | _, _, .arg h r, q => by simp only [T.lowR] at q; exact .arg ⟨h.1, h.2.elim (fun z => .inl ⟨s.out z.1, z.2⟩) .inr⟩ (r.down s q)
  | _, _, .lst h r, q => by simp only [T.lowR] at q; exact .lst ⟨h.1, s.out h.2.1, h.2.2⟩ (r.down s q)
  | _, _, .obj c n h nm r, q => by simp only [T.lowR] at q; exact .obj c (s.out n) h nm (r.down s q)
  | _, _, .ref h, q => by
    simp only [T.lowR] at q
    obtain ⟨m, e⟩ := s.ix
    rw [e, List.getElem?_append_left (of_decide_eq_true q)] at h
    exact .ref h
theorem Rps.down (s : Sub ρ ρ') : ∀ {ts : List T} {vs : List V}, Rps Y ρ' H ts vs → lowRs ρ.ix.length ts = true → Rps Y ρ H ts vs
  | _, _, .nil, _ => .nil
  | _, _, .cons a b, q => by
    simp only [lowRs, Bool.and_eq_true] at q
    exact .cons (a.down s q.1) (b.down s q.2)
end
theorem OR.down (s : Sub ρ ρ') {a : Addr} {o : VO} {H0 : Hp} {a0 : Addr} (r : OR Y ρ' H a o) (q : OR Y ρ H0 a0 o) : OR Y ρ H a o := by
  cases o with
  | lst ts => obtain ⟨vs, h1, hz, h2⟩ := r; obtain ⟨_, _, _, g⟩ := q; exact ⟨vs, h1, hz, h2.down s g.lows⟩
  | ins c fs => obtain ⟨C, dx, vfs, hc, h1, hn, h2⟩ := r; obtain ⟨_, _, _, _, _, _, g⟩ := q; exact ⟨C, dx, vfs, hc, h1, hn, h2.down s g.lows⟩
  | dct kvs => obtain ⟨vk, h1, h2, h3⟩ := r; obtain ⟨_, _, g2, g3⟩ := q; exact ⟨vk, h1, h2.down s g2.lows, h3.down s g3.lows⟩
/-- the heap as it was -/
theorem HR.down {H0 : Hp} {h h' : VH} (s : Sub ρ ρ') (r : HR Y ρ' H h') (q : HR Y ρ H0 h) (e : h'.take h.length = h) : HR Y ρ H h := by
  obtain ⟨m, em⟩ := s.ix
  refine ⟨q.len, q.nd, fun a ha => ?_, fun n o a h1 h2 => ?_⟩
  · obtain ⟨b1, b2⟩ := r.bt a (by rw [s.bn]; exact ha)
    exact ⟨b1, fun z => b2 (by rw [em]; exact List.mem_append_left _ z)⟩
  · have hn : n < h.length := (List.getElem?_eq_some_iff.mp h1).1
    have h3 : h'[n]? = some o := by
      rw [← e, List.getElem?_take_of_lt hn] at h1
      exact h1
    have h4 : ρ'.ix[n]? = some a := by
      rw [em, List.getElem?_append_left (by rw [q.len]; exact hn)]
      exact h2
    exact (r.at_ n o a h3 h4).down s (q.at_ n o a h1 h2)
end
/-- a value without what is forgotten -/
def frz (n : Nat) (h : VH) : Nat → T → Option T
  | 0, t => if t.lowR n then some t else none
  | k + 1, t => if t.lowR n then some t else match t with
    | .tup ts => (ts.mapM (frz n h k)).map .tup
    | .lst ts => (ts.mapM (frz n h k)).map .lst
    | .obj c fs => (fs.mapM (frz n h k)).map (.obj c)
    | .ref j => (match h[j]? with
      | some (.lst ts) => (ts.mapM (frz n h k)).map .lst
      | some (.ins c fs) => (fs.mapM (frz n h k)).map (.obj c)
      | _ => none)
    | _ => none
section
variable {Y : Wd} {ρ ρ' : Rh} {H : Hp} {h : VH}
theorem mapM_rps {f : T → Option T} (hf : ∀ t v u, Rp Y ρ' H t v → f t = some u → Rp Y ρ H u v) : ∀ {ts : List T} {vs : List V} {us : List T}, Rps Y ρ' H ts vs → ts.mapM f = some us → Rps Y ρ H us vs
  | [], _, us, r, e => by
    cases r
    simp at e
    subst e
    exact .nil
  | t :: ts, _, us, r, e => by
    cases r with
    | cons a b =>
      rw [List.mapM_cons] at e
      cases e1 : f t with
      | none => rw [e1] at e; simp at e
      | some u =>
        rw [e1] at e
        cases e2 : ts.mapM f with
        | none => rw [e2] at e; simp at e
        | some us' =>
          rw [e2] at e
          simp at e
          subst e
          exact .cons (hf _ _ _ a e1) (mapM_rps hf b e2)
theorem frz_ok (s : Sub ρ ρ') (hr : HR Y ρ' H h) : ∀ (k : Nat) (t : T) (v : V) (u : T), Rp Y ρ' H t v → frz ρ.ix.length h k t = some u → Rp Y ρ H u v := by
  intro k
  induction k with
  | zero =>
    intro t v u r e
    unfold frz at e
    split at e
    · rename_i q; cases e; exact r.down s q
    · cases e
  | succ k ih =>
    intro t v u r e
    unfold frz at e
    split at e
    · rename_i q; cases e; exact r.down s q
    · cases r with
      | tup ta rs =>
        simp only at e
        rename_i a vs ts _
        cases e1 : ts.mapM (frz ρ.ix.length h k) with
        | none => rw [e1] at e; cases e
        | some us =>
          rw [e1] at e
          cases e
          exact .tup ⟨ta.1, ta.2.elim (fun z => .inl ⟨s.out z.1, z.2⟩) .inr⟩ (mapM_rps ih rs e1)
      | lst ta rs =>
        simp only at e
        rename_i a vs ts _
        cases e1 : ts.mapM (frz ρ.ix.length h k) with
        | none => rw [e1] at e; cases e
        | some us =>
          rw [e1] at e
          cases e
          exact .lst ⟨ta.1, s.out ta.2.1, ta.2.2⟩ (mapM_rps ih rs e1)
      | obj hc ho hh hn rs =>
        simp only at e
        rename_i c a C dx vfs fs _
        cases e1 : fs.mapM (frz ρ.ix.length h k) with
        | none => rw [e1] at e; cases e
        | some us =>
          rw [e1] at e
          cases e
          have r2 := mapM_rps ih rs e1
          have hl : us.length = fs.length := by rw [← r2.length, rs.length]
          exact .obj hc (s.out ho) hh (by rw [hl]; exact hn) r2
      | ref ha =>
        simp only at e
        rename_i j a q0
        have hj : ¬ j < ρ.ix.length := fun z => q0 (by simp only [T.lowR]; exact decide_eq_true z)
        have out : ρ.out a := by
          obtain ⟨m, em⟩ := s.ix
          refine ⟨fun z => ?_, fun z => (hr.bt a (by rw [s.bn]; exact z)).2 (List.mem_of_getElem? ha)⟩
          obtain ⟨i, hi, ei⟩ := List.getElem_of_mem z
          have e1 : ρ'.ix[i]? = some a := by rw [em, List.getElem?_append_left hi, List.getElem?_eq_getElem hi, ei]
          obtain ⟨w1, f1⟩ := List.getElem?_eq_some_iff.mp e1
          obtain ⟨w2, f2⟩ := List.getElem?_eq_some_iff.mp ha
          have : i = j := (List.getElem_inj hr.nd).mp (f1.trans f2.symm)
          omega
        cases eo : h[j]? with
        | none => rw [eo] at e; cases e
        | some o =>
          rw [eo] at e
          have q := hr.at_ j o a eo ha
          cases o with
          | lst ts =>
            simp only at e
            obtain ⟨vs, h1, hz, rs⟩ := q
            cases e1 : ts.mapM (frz ρ.ix.length h k) with
            | none => rw [e1] at e; cases e
            | some us =>
              rw [e1] at e
              cases e
              exact .lst ⟨hz, out, h1⟩ (mapM_rps ih rs e1)
          | ins c fs =>
            simp only at e
            obtain ⟨C, dx, vfs, hc, h1, hn, rs⟩ := q
            cases e1 : fs.mapM (frz ρ.ix.length h k) with
            | none => rw [e1] at e; cases e
            | some us =>
              rw [e1] at e
              cases e
              have r2 := mapM_rps ih rs e1
              have hl : us.length = fs.length := by rw [← r2.length, rs.length]
              exact .obj hc out h1 (by rw [hl]; exact hn) r2
          | dct kvs => cases e
      | _ => cases e
end
/-- a def that leaves what stood as it was: its new things are forgotten, but what it hands back -/
def pureM (m : List T → VH → Res T) : List T → VH → Res T := fun ts h => match m ts h with
  | .ok t h' => if eqH (h'.take h.length) h then (match frz h.length h' 4 t with
    | some u => .ok u h
    | none => .bad) else .bad
  | .bad => .bad
theorem spM_pure {Y : Wd} {m : List T → VH → Res T} {vs : List V} {H : Hp} {Q : VK} {E : XK} (q : spM Y (pureM m) vs H Q E) : spM Y m vs H Q E := by
  obtain ⟨ρ, ts, h, u, h1, r, hr, e, to⟩ := q
  unfold pureM at e
  split at e
  · rename_i t h' em
    split at e
    · rename_i hq
      split at e
      · rename_i u' ef
        cases e
        refine ⟨ρ, ts, _, t, h', r, hr, em, ⟨fun ρ' H' v ev hr' rv => ?_⟩⟩
        have s : Sub ρ ρ' := ⟨let ⟨m, e, _⟩ := ev.more; ⟨m, e⟩, ev.bn⟩
        have ex : Ev ρ H ρ H' := .mk' ⟨[], by simp⟩ rfl ev.keep ev.there
        refine to.to ρ H' v ex (hr'.down s hr (eqH_eq hq)) (frz_ok s hr' 4 t v _ rv (by rw [hr.len]; exact ef))
      · cases e
    · cases e
  · cases e
theorem fnPure {P : Program} {w : World} {K : PySem.W.Frag} {mg : Str → Option Value} {base : Heap} {k : Nat} {f : Addr} {fd : FuncData} {ps : List Str} {Y : Wd} {m : List T → VH → Res T} (F : FnOk P w K mg base CX0 k f fd ps (spM Y m)) : FnOk P w K mg base CX0 k f fd ps (spM Y (pureM m)) :=
  F.imp fun _ _ _ _ q => spM_pure q
end TL

set_option Elab.async false
set_option linter.all false
set_option maxRecDepth 100000
set_option maxHeartbeats 4000000
namespace TL
open PySem PySem.Spec L2
/-! ### tree values as data -/
def T.dat (h : VH) : Nat → T → Option PyData
  | _, .non => some .none
  | _, .bl b => some (.bool b)
  | _, .int i => some (.int i)
  | _, .str x => some (.str x)
  | k + 1, .tup ts => (ts.mapM (T.dat h k)).map .tuple
  | k + 1, .lst ts => (ts.mapM (T.dat h k)).map .list
  | k + 1, .ref n => match h[n]? with
    | some (.lst ts) => (ts.mapM (T.dat h k)).map .list
    | _ => none
  | _, _ => none
theorem dats_ok {Y : Wd} {ρ : Rh} {H : Hp} {f : T → Option PyData} {k : Nat} (hf : ∀ t v d, Rp Y ρ H t v → f t = some d → Dp Y.K H v d ∧ d.plain = true ∧ d.depth ≤ k) :
    ∀ {ts : List T} {vs : List V} {ds : List PyData}, Rps Y ρ H ts vs → ts.mapM f = some ds → DpAll Y.K H vs ds ∧ PyData.plainAll ds = true ∧ PyData.depthAll ds ≤ k
  | [], _, ds, r, e => by
    cases r
    simp at e
    subst e
    exact ⟨.nil, rfl, Nat.zero_le _⟩
  | t :: ts, _, ds, r, e => by
    cases r with
    | cons a b =>
      rw [List.mapM_cons] at e
      cases e1 : f t with
      | none => rw [e1] at e; simp at e
      | some u =>
        rw [e1] at e
        cases e2 : ts.mapM f with
        | none => rw [e2] at e; simp at e
        | some us' =>
          rw [e2] at e
          simp at e
          subst e
          obtain ⟨q1, q2, q3⟩ := hf _ _ _ a e1
          obtain ⟨p1, p2, p3⟩ := dats_ok hf b e2
          exact ⟨.cons q1 p1, by rw [PyData.plainAll, q2, p2]; rfl, by rw [PyData.depthAll]; exact Nat.max_le.mpr ⟨q3, p3⟩⟩
theorem dat_ok {Y : Wd} {ρ : Rh} {H : Hp} {h : VH} (hr : HR Y ρ H h) : ∀ (k : Nat) (t : T) (v : V) (d : PyData), Rp Y ρ H t v → T.dat h k t = some d → Dp Y.K H v d ∧ d.plain = true ∧ d.depth ≤ k := by
  intro k
  induction k with
  | zero =>
    intro t v d r e
    cases r with
    | non => simp [T.dat] at e; subst e; exact ⟨.non, rfl, Nat.le_refl _⟩
    | bl b => simp [T.dat] at e; subst e; exact ⟨.bl b, rfl, Nat.le_refl _⟩
    | int i => simp [T.dat] at e; subst e; exact ⟨.int i, rfl, Nat.le_refl _⟩
    | str hx => simp [T.dat] at e; subst e; exact ⟨.str _, rfl, Nat.le_refl _⟩
    | _ => simp [T.dat] at e
  | succ k ih =>
    intro t v d r e
    cases r with
    | non => simp [T.dat] at e; subst e; exact ⟨.non, rfl, Nat.zero_le _⟩
    | bl b => simp [T.dat] at e; subst e; exact ⟨.bl b, rfl, Nat.zero_le _⟩
    | int i => simp [T.dat] at e; subst e; exact ⟨.int i, rfl, Nat.zero_le _⟩
    | str hx => simp [T.dat] at e; subst e; exact ⟨.str _, rfl, Nat.zero_le _⟩
    | tup ta rs =>
      simp only [T.dat, Option.map_eq_some_iff] at e
      obtain ⟨ds, e1, rfl⟩ := e
      obtain ⟨q1, q2, q3⟩ := dats_ok (ih) rs e1
      exact ⟨.tup ta.sq q1, by simp only [PyData.plain]; exact q2, by rw [PyData.depth]; omega⟩
    | lst ta rs =>
      simp only [T.dat, Option.map_eq_some_iff] at e
      obtain ⟨ds, e1, rfl⟩ := e
      obtain ⟨q1, q2, q3⟩ := dats_ok (ih) rs e1
      exact ⟨.lst ta.sq q1, by simp only [PyData.plain]; exact q2, by rw [PyData.depth]; omega⟩
    | obj _ _ _ _ _ => simp [T.dat] at e
    | arg _ _ => simp [T.dat] at e
    | @ref n a ha =>
      unfold T.dat at e
      split at e
      · rename_i ts eo
        simp only [Option.map_eq_some_iff] at e
        obtain ⟨ds, e1, rfl⟩ := e
        obtain ⟨vs, h1, hz, rs⟩ := hr.at_ n _ a eo ha
        obtain ⟨q1, q2, q3⟩ := dats_ok (ih) rs e1
        exact ⟨.lst (.of h1) q1, by simp only [PyData.plain]; exact q2, by rw [PyData.depth]; omega⟩
      · cases e
/-! ### rules of my own by values -/
section
variable {X : Cx}
def rEqP (K : PySem.W.Frag) (g : PyData → PyData → Bool) : R2 := fun x y H Q => ∃ d e, Dp K H x d ∧ Dp K H y e ∧ d.plain = true ∧ e.plain = true ∧ d.depth ≤ 12 ∧ Q (.bl (g d e)) H
theorem op_eqP (hu : X.A.units + 80 < cLine) : OpR X (compareOp .Eq) (rEqP X.K fun d e => PyData.eqv d e) := by
  intro pins s σ H x y v u Q I rx ry h
  obtain ⟨d, e, hd, he, sd, se, hz, q⟩ := h
  obtain ⟨as, r1⟩ := Dp.reads I d x v hd rx
  obtain ⟨bs, r2⟩ := Dp.reads I e y u he ry
  exact SeqAt.eq_plain r1 r2 sd se (by omega) ⟨.bl _, H, I, rfl, q⟩
theorem op_neP (hu : X.A.units + 80 < cLine) : OpR X (compareOp .NotEq) (rEqP X.K fun d e => !PyData.eqv d e) := by
  intro pins s σ H x y v u Q I rx ry h
  obtain ⟨d, e, hd, he, sd, se, hz, q⟩ := h
  obtain ⟨as, r1⟩ := Dp.reads I d x v hd rx
  obtain ⟨bs, r2⟩ := Dp.reads I e y u he ry
  exact SeqAt.ne_plain r1 r2 sd se (by omega) ⟨.bl _, H, I, rfl, q⟩
def rInP (K : PySem.W.Frag) (neg : Bool) : R2 := fun x y H Q => ∃ d ds, Dp K H x d ∧ (Dp K H y (.list ds) ∨ Dp K H y (.tuple ds)) ∧ d.plain = true ∧ PyData.plainAll ds = true ∧ d.depth ≤ 12 ∧ Q (.bl (neg != ds.any fun z => PyData.eqv z d)) H
theorem op_inP (hu : X.A.units + 80 < cLine) : OpR X (compareOp .In) (rInP X.K false) := by
  intro pins s σ H x y v u Q I rx ry h
  obtain ⟨d, ds, hd, he, sd, se, hz, q⟩ := h
  obtain ⟨as, r1⟩ := Dp.reads I d x v hd rx
  rw [Bool.false_bne] at q
  rcases he with he | he
  · obtain ⟨bs, r2⟩ := Dp.reads I _ y u he ry
    exact SeqAt.in_list_data r2 r1 se sd (by omega) ⟨.bl _, H, I, rfl, q⟩
  · obtain ⟨bs, r2⟩ := Dp.reads I _ y u he ry
    exact SeqAt.in_tuple_data r2 r1 se sd (by omega) ⟨.bl _, H, I, rfl, q⟩
theorem op_ninP (hu : X.A.units + 80 < cLine) : OpR X (compareOp .NotIn) (rInP X.K true) := by
  intro pins s σ H x y v u Q I rx ry h
  obtain ⟨d, ds, hd, he, sd, se, hz, q⟩ := h
  obtain ⟨as, r1⟩ := Dp.reads I d x v hd rx
  rw [Bool.true_bne] at q
  rcases he with he | he
  · obtain ⟨bs, r2⟩ := Dp.reads I _ y u he ry
    exact SeqAt.notIn_list_data r2 r1 se sd (by omega) ⟨.bl _, H, I, rfl, q⟩
  · obtain ⟨bs, r2⟩ := Dp.reads I _ y u he ry
    exact SeqAt.notIn_tuple_data r2 r1 se sd (by omega) ⟨.bl _, H, I, rfl, q⟩
def rOrd (K : PySem.W.Frag) (g : PyData → PyData → Bool) : R2 := fun x y H Q => ∃ d e, Dp K H x d ∧ Dp K H y e ∧ PySem.W.alike d e = true ∧ d ≠ .none ∧ d.depth ≤ 12 ∧ Q (.bl (g d e)) H

theorem op_ltP (hu : X.A.units + 80 < cLine) : OpR X (compareOp .Lt) (rOrd X.K fun d e => PySem.W.dataLt d e) := by
  intro pins s σ H x y v u Q I rx ry h
  obtain ⟨d, e, hd, he, sd, se, hz, q⟩ := h
  obtain ⟨as, r1⟩ := Dp.reads I d x v hd rx
  obtain ⟨bs, r2⟩ := Dp.reads I e y u he ry
  exact PySem.W.lt_data r1 r2 sd se (by omega) ⟨.bl _, H, I, rfl, q⟩
theorem op_leP (hu : X.A.units + 80 < cLine) : OpR X (compareOp .LtE) (rOrd X.K fun d e => !PySem.W.dataLt e d) := by
  intro pins s σ H x y v u Q I rx ry h
  obtain ⟨d, e, hd, he, sd, se, hz, q⟩ := h
  obtain ⟨as, r1⟩ := Dp.reads I d x v hd rx
  obtain ⟨bs, r2⟩ := Dp.reads I e y u he ry
  exact PySem.W.le_data r1 r2 sd se (by omega) ⟨.bl _, H, I, rfl, q⟩
theorem op_gtP (hu : X.A.units + 80 < cLine) : OpR X (compareOp .Gt) (rOrd X.K fun d e => PySem.W.dataLt e d) := by
  intro pins s σ H x y v u Q I rx ry h
  obtain ⟨d, e, hd, he, sd, se, hz, q⟩ := h
  obtain ⟨as, r1⟩ := Dp.reads I d x v hd rx
  obtain ⟨bs, r2⟩ := Dp.reads I e y u he ry
  exact PySem.W.gt_data r1 r2 sd se (by omega) ⟨.bl _, H, I, rfl, q⟩
theorem op_geP (hu : X.A.units + 80 < cLine) : OpR X (compareOp .GtE) (rOrd X.K fun d e => !PySem.W.dataLt d e) := by
  intro pins s σ H x y v u Q I rx ry h
  obtain ⟨d, e, hd, he, sd, se, hz, q⟩ := h
  obtain ⟨as, r1⟩ := Dp.reads I d x v hd rx
  obtain ⟨bs, r2⟩ := Dp.reads I e y u he ry
  exact PySem.W.ge_data r1 r2 sd se (by omega) ⟨.bl _, H, I, rfl, q⟩
end
/-! ### two-place operations -/
section
variable {X : Cx} {Y : Wd}
theorem OT.or {r r' : R2} {b : T → T → VH → Res T} (h : ∀ ρ H t1 t2 v1 v2 h t h' Q, Rp Y ρ H t1 v1 → Rp Y ρ H t2 v2 → HR Y ρ H h → b t1 t2 h = .ok t h' → To Y (Rp Y) ρ H t h' Q → r v1 v2 H Q ∨ r' v1 v2 H Q) : OT Y (fun x y H Q => r x y H Q ∨ r' x y H Q) b := h
def bEqG (g : PyData → PyData → Bool) : T → T → VH → Res T := fun a b h => match a.dat h 10, b.dat h 10 with
  | some x, some y => .ok (.bl (g x y)) h
  | _, _ => .bad
def bEq := bEqG fun d e => PyData.eqv d e
def bNe := bEqG fun d e => !PyData.eqv d e
theorem ot_eqG (g : PyData → PyData → Bool) : OT Y (rEqP Y.K g) (bEqG g) := fun ρ H t1 t2 v1 v2 h t h' Q r1 r2 hr e to => by
  unfold bEqG at e
  split at e
  · rename_i x y e1 e2
    cases e
    obtain ⟨p1, p2, p3⟩ := dat_ok hr _ _ _ _ r1 e1
    obtain ⟨q1, q2, q3⟩ := dat_ok hr _ _ _ _ r2 e2
    exact ⟨x, y, p1, q1, p2, q2, by omega, to.to ρ H _ .refl hr (.bl _)⟩
  · cases e
def notNone : PyData → Bool
  | .none => false
  | _ => true
theorem notNone_ne {d : PyData} (h : notNone d = true) : d ≠ .none := fun z => by subst z; cases h
def bOrdD (g : PyData → PyData → Bool) (a b : T) (h : VH) : Res T := match a.dat h 10, b.dat h 10 with
  | some x, some y => if (PySem.W.alike x y && notNone x) = true then .ok (.bl (g x y)) h else .bad
  | _, _ => .bad
def bOrdG (g : PyData → PyData → Bool) (gi : Int → Int → Bool) (a b : T) (h : VH) : Res T := match a, b with
  | .int i, .int j => .ok (.bl (gi i j)) h
  | a, b => bOrdD g a b h
def bLt := bOrdG (fun d e => PySem.W.dataLt d e) fun i j => decide (i < j)
def bLe := bOrdG (fun d e => !PySem.W.dataLt e d) fun i j => decide (i ≤ j)
def bGt := bOrdG (fun d e => PySem.W.dataLt e d) fun i j => decide (j < i)
def bGe := bOrdG (fun d e => !PySem.W.dataLt d e) fun i j => decide (j ≤ i)
def rO (K : PySem.W.Frag) (g : PyData → PyData → Bool) (gi : Int → Int → Bool) : R2 := fun x y H Q => rI0 (fun i j => .bl (gi i j)) x y H Q ∨ rOrd K g x y H Q
theorem ot_ord (g : PyData → PyData → Bool) (gi : Int → Int → Bool) : OT Y (rO Y.K g gi) (bOrdG g gi) := fun ρ H t1 t2 v1 v2 h t h' Q r1 r2 hr e to => by
  unfold bOrdG at e
  split at e
  · cases e
    cases r1
    cases r2
    exact .inl ⟨_, _, rfl, rfl, to.to ρ H _ .refl hr (.bl _)⟩
  · unfold bOrdD at e
    split at e
    · rename_i x y e1 e2
      split at e
      · rename_i c
        cases e
        rw [Bool.and_eq_true] at c
        obtain ⟨p1, p2, p3⟩ := dat_ok hr _ _ _ _ r1 e1
        obtain ⟨q1, q2, q3⟩ := dat_ok hr _ _ _ _ r2 e2
        exact .inr ⟨x, y, p1, q1, c.1, notNone_ne c.2, by omega, to.to ρ H _ .refl hr (.bl _)⟩
      · cases e
    · cases e
theorem oLt (hu : X.A.units + 80 < cLine) : OpR X (compareOp .Lt) (rO X.K (fun d e => PySem.W.dataLt d e) fun i j => decide (i < j)) := op_lt.or (op_ltP hu)
theorem oLe (hu : X.A.units + 80 < cLine) : OpR X (compareOp .LtE) (rO X.K (fun d e => !PySem.W.dataLt e d) fun i j => decide (i ≤ j)) := op_le.or (op_leP hu)
theorem oGt (hu : X.A.units + 80 < cLine) : OpR X (compareOp .Gt) (rO X.K (fun d e => PySem.W.dataLt e d) fun i j => decide (j < i)) := op_gt.or (op_gtP hu)
theorem oGe (hu : X.A.units + 80 < cLine) : OpR X (compareOp .GtE) (rO X.K (fun d e => !PySem.W.dataLt d e) fun i j => decide (j ≤ i)) := op_ge.or (op_geP hu)

/-! in, not in -/
def bInS (neg : Bool) (a b : Str) : Bool := neg != !(Builtin.Str.occurrences b a 0 b.length 1).isEmpty
def bInG (neg : Bool) (a b : T) (h : VH) : Res T := match a, b with
  | .str x, .str y => .ok (.bl (bInS neg x y)) h
  | a, b => match a.dat h 10, b.dat h 11 with
    | some d, some (.list ds) => .ok (.bl (neg != ds.any fun z => PyData.eqv z d)) h
    | some d, some (.tuple ds) => .ok (.bl (neg != ds.any fun z => PyData.eqv z d)) h
    | _, _ => .bad
def bIn := bInG false
def bNin := bInG true
def rInA (K : PySem.W.Frag) (neg : Bool) : R2 := fun x y H Q => (∃ i j, x = .str i ∧ y = .str j ∧ Q (.bl (bInS neg i j)) H) ∨ rInP K neg x y H Q
theorem ot_in (neg : Bool) : OT Y (rInA Y.K neg) (bInG neg) := fun ρ H t1 t2 v1 v2 h t h' Q r1 r2 hr e to => by
  unfold bInG at e
  split at e
  · cases e
    cases r1
    cases r2
    exact .inl ⟨_, _, rfl, rfl, to.to ρ H _ .refl hr (.bl _)⟩
  · split at e
    · rename_i d ds e1 e2
      cases e
      obtain ⟨p1, p2, p3⟩ := dat_ok hr _ _ _ _ r1 e1
      obtain ⟨q1, q2, q3⟩ := dat_ok hr _ _ _ _ r2 e2
      exact .inr ⟨d, ds, p1, .inl q1, p2, by simpa only [PyData.plain] using q2, by omega, to.to ρ H _ .refl hr (.bl _)⟩
    · rename_i d ds e1 e2
      cases e
      obtain ⟨p1, p2, p3⟩ := dat_ok hr _ _ _ _ r1 e1
      obtain ⟨q1, q2, q3⟩ := dat_ok hr _ _ _ _ r2 e2
      exact .inr ⟨d, ds, p1, .inr q1, p2, by simpa only [PyData.plain] using q2, by omega, to.to ρ H _ .refl hr (.bl _)⟩
    · cases e
theorem oIn (hu : X.A.units + 80 < cLine) : OpR X (compareOp .In) (rInA X.K false) := by
  refine OpR.or (r := fun x y H Q => ∃ i j, x = .str i ∧ y = .str j ∧ Q (.bl (bInS false i j)) H) (fun pins s σ H x y v u Q I rx ry h => ?_) (op_inP hu)
  obtain ⟨i, j, e1, e2, q⟩ := h
  exact op_in_str pins s σ H x y v u Q I rx ry ⟨i, j, e1, e2, by unfold bInS at q; rw [Bool.false_bne] at q; exact q⟩
theorem oNin (hu : X.A.units + 80 < cLine) : OpR X (compareOp .NotIn) (rInA X.K true) := by
  refine OpR.or (r := fun x y H Q => ∃ i j, x = .str i ∧ y = .str j ∧ Q (.bl (bInS true i j)) H) (fun pins s σ H x y v u Q I rx ry h => ?_) (op_ninP hu)
  obtain ⟨i, j, e1, e2, q⟩ := h
  exact op_notIn_str pins s σ H x y v u Q I rx ry ⟨i, j, e1, e2, by unfold bInS at q; rw [Bool.true_bne] at q; exact q⟩

/-! is None, is not None -/
def isNon : T → Bool
  | .non => true
  | _ => false
def bIsG (neg : Bool) (a b : T) (h : VH) : Res T := match b with
  | .non => .ok (.bl (neg != isNon a)) h
  | _ => .bad
def bIs := bIsG false
def bIsn := bIsG true
theorem isNon_ok {ρ : Rh} {H : Hp} {t : T} {v : V} (r : Rp Y ρ H t v) : isNon t = decide (v = .non) := by cases r <;> simp [isNon]
theorem ot_is : OT Y (fun x y H Q => y = V.non ∧ Q (.bl (decide (x = V.non))) H) bIs := fun ρ H t1 t2 v1 v2 h t h' Q r1 r2 hr e to => by
  unfold bIs bIsG at e
  split at e
  · cases e
    cases r2
    exact ⟨rfl, to.to ρ H _ .refl hr (by rw [Bool.false_bne, isNon_ok r1]; exact .bl _)⟩
  · cases e
theorem ot_isn : OT Y (fun x y H Q => y = V.non ∧ Q (.bl (!decide (x = V.non))) H) bIsn := fun ρ H t1 t2 v1 v2 h t h' Q r1 r2 hr e to => by
  unfold bIsn bIsG at e
  split at e
  · cases e
    cases r2
    exact ⟨rfl, to.to ρ H _ .refl hr (by rw [Bool.true_bne, isNon_ok r1]; exact .bl _)⟩
  · cases e

/-! numbers -/
def bI (c : Int → Int → Bool) (g : Int → Int → Int) (a b : T) (h : VH) : Res T := match a, b with
  | .int i, .int j => if c i j = true then .ok (.int (g i j)) h else .bad
  | _, _ => .bad
def bI0 (g : Int → Int → Int) (a b : T) (h : VH) : Res T := match a, b with
  | .int i, .int j => .ok (.int (g i j)) h
  | _, _ => .bad
theorem ot_I0 (g : Int → Int → Int) : OT Y (rI0 fun i j => .int (g i j)) (bI0 g) := fun ρ H t1 t2 v1 v2 h t h' Q r1 r2 hr e to => by
  unfold bI0 at e
  split at e
  · cases e
    cases r1
    cases r2
    exact ⟨_, _, rfl, rfl, to.to ρ H _ .refl hr (.int _)⟩
  · cases e
theorem ot_I {C : Int → Int → Prop} {c : Int → Int → Bool} (g : Int → Int → Int) (hc : ∀ i j, c i j = true → C i j) : OT Y (rI C fun i j => .int (g i j)) (bI c g) := fun ρ H t1 t2 v1 v2 h t h' Q r1 r2 hr e to => by
  unfold bI at e
  split at e
  · split at e
    · rename_i c'
      cases e
      cases r1
      cases r2
      exact ⟨_, _, rfl, rfl, hc _ _ c', to.to ρ H _ .refl hr (.int _)⟩
    · cases e
  · cases e
def bSub := bI0 fun i j => i - j
def bAnd' := bI0 fun i j => Builtin.bitAnd i j
def bMod := bI (fun _ j => decide (0 < j)) fun i j => i % j
def bFdv := bI (fun i j => decide (0 < j) && decide (j < 1073741824)) fun i j => i / j
def bPow := bI (fun i j => decide (0 ≤ j) && decide (j ≤ 1000) && decide (i.natAbs < 1000000)) fun i j => i ^ j.toNat
def cMul (i j : Int) : Bool := (decide (-1000000000000000000 < i) && decide (i < 1000000000000000000)) || (decide (-1000000000000000000 < j) && decide (j < 1000000000000000000))
theorem ot_sub : OT Y (rI0 fun i j => .int (i - j)) bSub := ot_I0 _
theorem ot_and : OT Y (rI0 fun i j => .int (Builtin.bitAnd i j)) bAnd' := ot_I0 _
theorem ot_mod : OT Y (rI (fun x j => 0 < j) fun i j => .int (i % j)) bMod := ot_I _ fun i j h => of_decide_eq_true h
theorem ot_fdv : OT Y (rI CDiv fun i j => .int (i / j)) bFdv := ot_I _ fun i j h => by rw [Bool.and_eq_true] at h; exact ⟨of_decide_eq_true h.1, of_decide_eq_true h.2⟩
theorem ot_pow : OT Y (rI CPow fun i j => .int (i ^ j.toNat)) bPow := ot_I _ fun i j h => by
  rw [Bool.and_eq_true, Bool.and_eq_true] at h
  have h1 := of_decide_eq_true h.1.1
  have h2 := of_decide_eq_true h.1.2
  have h3 := of_decide_eq_true h.2
  exact ⟨h1, by omega, by omega⟩
theorem cMul_ok {i j : Int} (h : cMul i j = true) : CMul i j := by
  unfold cMul at h
  rw [Bool.or_eq_true, Bool.and_eq_true, Bool.and_eq_true] at h
  rcases h with h | h
  · have h1 := of_decide_eq_true h.1
    have h2 := of_decide_eq_true h.2
    exact .inl ⟨by omega, by omega⟩
  · have h1 := of_decide_eq_true h.1
    have h2 := of_decide_eq_true h.2
    exact .inr ⟨by omega, by omega⟩

/-! + -/
def bAdd (a b : T) (h : VH) : Res T := match a, b with
  | .int i, .int j => .ok (.int (i + j)) h
  | .str x, .str y => if x.length + y.length ≤ 1000000 then .ok (.str (x ++ y)) h else .bad
  | .tup x, .tup y => if x.length + y.length ≤ 16777216 then .ok (.tup (x ++ y)) h else .bad
  | a, b => match listOf h a, listOf h b with
    | some x, some y => if x.length + y.length ≤ 16777216 then .ok (.lst (x ++ y)) h else .bad
    | _, _ => .bad
def rAddS : R2 := fun x y H Q => ∃ i j, x = .str i ∧ y = .str j ∧ i.length + j.length ≤ sizeLine ∧ Q (.str (i ++ j)) H
def rAdd (K : PySem.W.Frag) : R2 := fun x y H Q => rI0 (fun i j => .int (i + j)) x y H Q ∨ rAddS x y H Q ∨ rCatA K x y H Q ∨ rCat x y H Q
theorem oAdd : OpR X (binaryOp .Add) (rAdd X.K) := op_add.or (OpR.or (r := rAddS) op_add_str (op_catA.or op_cat))
theorem len_app (x y : Str) : (x ++ y).length = x.length + y.length := by
  show (x.cps ++ y.cps).size = _
  rw [Array.size_append]; rfl
theorem newL' {ρ : Rh} {H : Hp} {h : VH} {ts : List T} {vs : List V} {D : Addr} (hr : HR Y ρ H h) (rs : Rps Y ρ H ts vs) (hz : vs.length ≤ sizeLine) (hD : H D = none) : HR Y ρ (upd H D (.lst vs)) h ∧ Rp Y ρ (upd H D (.lst vs)) (.lst ts) (.ref D) :=
  let ⟨a, b, c, _⟩ := newL hr rs hz hD
  ⟨a, .lst b c⟩
theorem ot_add : OT Y (rAdd Y.K) bAdd := fun ρ H t1 t2 v1 v2 h t h' Q r1 r2 hr e to => by
  unfold bAdd at e
  split at e
  · cases e
    cases r1
    cases r2
    exact .inl ⟨_, _, rfl, rfl, to.to ρ H _ .refl hr (.int _)⟩
  · split at e
    · rename_i hz
      cases e
      cases r1
      cases r2
      exact .inr (.inl ⟨_, _, rfl, rfl, by rw [sizeLine_eq]; omega, to.to ρ H _ .refl hr (.str (by rw [len_app]; exact hz))⟩)
    · cases e
  · split at e
    · rename_i hz
      cases e
      cases r1 with
      | tup ta ra =>
        cases r2 with
        | tup tb rb =>
          refine .inr (.inr (.inl ⟨_, _, _, _, rfl, rfl, ta.sq, tb.sq, by rw [ra.length, rb.length, sizeLine_eq]; exact hz, fun z => ?_, fun z0 z => ?_, fun _ _ p hp => ?_⟩))
          · subst z
            cases ra
            exact to.to ρ H _ .refl hr (.tup tb rb)
          · subst z
            cases rb
            rw [List.append_nil] at to
            exact to.to ρ H _ .refl hr (.tup ta ra)
          · obtain ⟨n1, n2⟩ := newT hr (ra.append rb) (by rw [List.length_append, ra.length, rb.length, sizeLine_eq]; exact hz) hp
            exact to.to ρ _ _ (Ev.new hp) n1 n2
    · cases e
  · split at e
    · rename_i x y e1 e2
      split at e
      · rename_i hz
        cases e
        obtain ⟨a, va, rfl, ha, hza, ra⟩ := listOf_ok' r1 hr e1
        obtain ⟨b, vb, rfl, hb, hzb, rb⟩ := listOf_ok' r2 hr e2
        have hl : va.length + vb.length ≤ sizeLine := by rw [ra.length, rb.length, sizeLine_eq]; exact hz
        refine .inr (.inr (.inr ⟨a, b, va, vb, rfl, rfl, ha, hb, hl, fun p hp => ?_⟩))
        obtain ⟨n1, n2⟩ := newL' hr (ra.append rb) (by rw [List.length_append]; exact hl) hp
        exact to.to ρ _ _ (Ev.new hp) n1 n2
      · cases e
    · cases e
/-! * -/
theorem Rps.rep {ρ : Rh} {H : Hp} {ts : List T} {vs : List V} (r : Rps Y ρ H ts vs) : ∀ k : Nat, Rps Y ρ H (List.replicate k ts).flatten (List.replicate k vs).flatten
  | 0 => .nil
  | k + 1 => by
    simp only [List.replicate_succ, List.flatten_cons]
    exact r.append (r.rep k)
theorem rep_len {α : Type} (l : List α) (k : Nat) : (List.replicate k l).flatten.length = k * l.length := by simp
def bMul (a b : T) (h : VH) : Res T := match a, b with
  | .int i, .int j => if cMul i j = true then .ok (.int (i * j)) h else .bad
  | a, .int k => match listOf h a with
    | some x => if x.length * k.toNat ≤ 16777216 ∧ -1000000000 ≤ k ∧ k ≤ 1000000000 then .ok (.lst (List.replicate k.toNat x).flatten) h else .bad
    | _ => .bad
  | _, _ => .bad
def rMul : R2 := fun x y H Q => rI CMul (fun i j => .int (i * j)) x y H Q ∨ rRep x y H Q
theorem oMul : OpR X (binaryOp .Mult) rMul := op_mul.or op_rep
theorem ot_mul : OT Y rMul bMul := fun ρ H t1 t2 v1 v2 h t h' Q r1 r2 hr e to => by
  unfold bMul at e
  split at e
  · split at e
    · rename_i c
      cases e
      cases r1
      cases r2
      exact .inl ⟨_, _, rfl, rfl, cMul_ok c, to.to ρ H _ .refl hr (.int _)⟩
    · cases e
  · split at e
    · rename_i x e1
      split at e
      · rename_i hz
        cases e
        cases r2
        obtain ⟨a, va, rfl, ha, hza, ra⟩ := listOf_ok' r1 hr e1
        have hl := hz.1
        rw [← ra.length, ← sizeLine_eq] at hl
        refine .inr ⟨a, _, va, rfl, rfl, ha, by omega, by omega, hl, fun p hp => ?_⟩
        obtain ⟨n1, n2⟩ := newL' hr (ra.rep _) (by rw [rep_len, Nat.mul_comm]; exact hl) hp
        exact to.to ρ _ _ (Ev.new hp) n1 n2
      · cases e
    · cases e
  · cases e
/-! subscripts -/
theorem atI_rps {ρ : Rh} {H : Hp} {ts : List T} {vs : List V} {i : Int} {t : T} (r : Rps Y ρ H ts vs) (e : atI ts i = some t) : ∃ v, atI vs i = some v ∧ Rp Y ρ H t v := by
  unfold atI at e ⊢
  rw [r.length]
  cases q : ixN ts.length i with
  | none => rw [q] at e; cases e
  | some j => rw [q] at e; exact r.get e
def bIx (a b : T) (h : VH) : Res T := match a, b with
  | .tup ts, .int i => (match atI ts i with
    | some t => .ok t h
    | none => .bad)
  | .arg ts, .int i => (match atI ts i with
    | some t => .ok t h
    | none => .bad)
  | .str z, .int i => (match atI z.cps.toList i with
    | some c => .ok (.str ⟨#[c]⟩) h
    | none => .bad)
  | a, .int i => (match listOf h a with
    | some ts => (match atI ts i with
      | some t => .ok t h
      | none => .bad)
    | none => .bad)
  | _, _ => .bad
theorem ot_ix : OT Y (rIx Y.K) bIx := fun ρ H t1 t2 v1 v2 h t h' Q r1 r2 hr e to => by
  unfold bIx at e
  split at e
  · split at e
    · rename_i q
      cases e
      cases r2
      cases r1 with
      | tup ta rs =>
        obtain ⟨v, ev, rv⟩ := atI_rps rs q
        exact .inr (.inl ⟨_, _, _, v, rfl, rfl, ta.sq, ev, to.to ρ H _ .refl hr rv⟩)
    · cases e
  · split at e
    · rename_i q
      cases e
      cases r2
      cases r1 with
      | arg ta rs =>
        obtain ⟨v, ev, rv⟩ := atI_rps rs q
        exact .inl ⟨_, _, _, v, rfl, rfl, ta.sq, ev, to.to ρ H _ .refl hr rv⟩
    · cases e
  · split at e
    · rename_i q
      cases e
      cases r2
      cases r1 with
      | str hz => exact .inr (.inr ⟨_, _, _, rfl, rfl, by rw [sizeLine_eq]; omega, q, to.to ρ H _ .refl hr (.str (by show (#[_] : Array Nat).size ≤ _; simp))⟩)
    · cases e
  · split at e
    · rename_i x e1
      split at e
      · rename_i q
        cases e
        cases r2
        obtain ⟨a, va, rfl, ha, hza, ra⟩ := listOf_ok r1 hr e1
        obtain ⟨v, ev, rv⟩ := atI_rps ra q
        exact .inl ⟨_, _, _, v, rfl, rfl, ha, ev, to.to ρ H _ .refl hr rv⟩
      · cases e
    · cases e
  · cases e
theorem xIx {a b : Expr} {f g : ME} {pos : Pos} (hK : X.K = Y.K) (ha : PE X a (TM Y f)) (hb : PE X b (TM Y g)) (hs : PlainIx b) : PE X (.Subscript a b pos) (TM Y (eOp bIx f g)) :=
  pe_imp (pe_ix (by rw [← hK]; exact ix_seq) ha hb hs) fun σ H Q q => tm_op ot_ix q
/-! slices -/
abbrev MO := TS_ → VH → Res (Option Int)
def TMO (Y : Wd) (f : MO) : TO := fun σ H Q => ∃ ρ τ h t h', Go Y ρ H τ σ h ∧ f τ h = .ok t h' ∧ To Y (fun _ _ a b => a = b) ρ H t h' Q
def oNo : MO := fun _ h => .ok none h
def oSome (f : ME) : MO := fun τ h => match f τ h with
  | .ok (.int i) h1 => .ok (some i) h1
  | _ => .bad
theorem po_imp {e : Option Expr} {t t' : TO} (h : PO X e t) (i : ∀ σ H Q, t' σ H Q → t σ H Q) : PO X e t' := ⟨fun pins s σ H Q I q => h.run pins s σ H Q I (i _ _ _ q)⟩
theorem xoNo : PO X none (TMO Y oNo) := po_imp po_none fun σ H Q q => by
  obtain ⟨ρ, τ, h, t, h', G, e, to⟩ := q
  cases e
  exact to.to ρ H _ .refl G.hr rfl
theorem xoSome {e : Expr} {f : ME} (he : PE X e (TM Y f)) : PO X (some e) (TMO Y (oSome f)) := po_imp (po_some he) fun σ H Q q => by
  obtain ⟨ρ, τ, h, t, h', G, e, to⟩ := q
  unfold oSome at e
  split at e
  · rename_i i h1 e1
    cases e
    exact ⟨ρ, τ, h, _, _, G, e1, ⟨fun ρ1 H1 v ev hr r => by cases r; exact ⟨_, rfl, to.to ρ1 H1 _ ev hr rfl⟩⟩⟩
  · cases e
def cutT (xs : List T) (lo hi : Option Int) : List T := (xs.drop (HT.sIx xs.length 0 lo)).take (HT.sIx xs.length xs.length hi - HT.sIx xs.length 0 lo)
def bSl (a : T) (lo hi : Option Int) (h : VH) : Res T := match a with
  | .tup ts => .ok (.tup (cutT ts lo hi)) h
  | .arg ts => .ok (.lst (cutT ts lo hi)) h
  | .str z => .ok (.str (cutS z lo hi)) h
  | a => match listOf h a with
    | some ts => .ok (.lst (cutT ts lo hi)) h
    | none => .bad
def eSl (f : ME) (lo hi : MO) : ME := fun τ h => match f τ h with
  | .ok a h1 => (match lo τ h1 with
    | .ok l h2 => (match hi τ h2 with
      | .ok u h3 => bSl a l u h3
      | .bad => .bad)
    | .bad => .bad)
  | .bad => .bad
def rSl (K : PySem.W.Frag) : V → Option Int → Option Int → Hp → VK → Prop := fun x lo hi H Q => rSlL K x lo hi H Q ∨ rSlA K x lo hi H Q ∨ rSlS x lo hi H Q
theorem oSl : SlR X (rSl X.K) := sl_list.or (sl_tupA.or sl_str)
theorem cut_rps {ρ : Rh} {H : Hp} {ts : List T} {vs : List V} (lo hi : Option Int) (r : Rps Y ρ H ts vs) : Rps Y ρ H (cutT ts lo hi) (cutV vs lo hi) := by
  unfold cutT cutV
  rw [r.length]
  exact (r.drop _).take _
theorem cut_whole (vs : List V) (lo hi : Option Int) (h : HT.sIx vs.length 0 lo = 0 ∧ HT.sIx vs.length vs.length hi = vs.length) : cutV vs lo hi = vs := by
  unfold cutV
  rw [h.1, h.2]; simp
theorem sl_ok {ρ : Rh} {H : Hp} {a : T} {va : V} {lo hi : Option Int} {h h' : VH} {t : T} {Q : VK} (ra : Rp Y ρ H a va) (hr : HR Y ρ H h) (e : bSl a lo hi h = .ok t h') (to : To Y (Rp Y) ρ H t h' Q) : rSl Y.K va lo hi H Q := by
  unfold bSl at e
  split at e
  · cases e
    cases ra with
    | tup ta rs =>
      have rc := cut_rps lo hi rs
      refine .inr (.inl ⟨_, _, rfl, ta.sq, fun w => ?_, fun w p hp => ?_⟩)
      · rw [cut_whole _ _ _ w] at rc
        exact to.to ρ H _ .refl hr (.tup ta rc)
      · obtain ⟨n1, n2⟩ := newT hr rc (Nat.le_trans (cutV_length _ _ _) ta.1) hp
        exact to.to ρ _ _ (Ev.new hp) n1 n2
  · cases e
    cases ra with
    | arg ta rs =>
      refine .inl ⟨_, _, rfl, ta.sq, fun p hp => ?_⟩
      obtain ⟨n1, n2⟩ := newL' hr (cut_rps lo hi rs) (Nat.le_trans (cutV_length _ _ _) ta.1) hp
      exact to.to ρ _ _ (Ev.new hp) n1 n2
  · cases e
    cases ra with
    | str hz => exact .inr (.inr ⟨_, rfl, by rw [sizeLine_eq]; omega, to.to ρ H _ .refl hr (.str (Nat.le_trans (cutS_length _ _ _) hz))⟩)
  · split at e
    · rename_i ts e1
      cases e
      obtain ⟨b, vb, rfl, hb, hz, rb⟩ := listOf_ok ra hr e1
      refine .inl ⟨b, vb, rfl, hb, fun p hp => ?_⟩
      obtain ⟨n1, n2⟩ := newL' hr (cut_rps lo hi rb) (Nat.le_trans (cutV_length _ _ _) hz) hp
      exact to.to ρ _ _ (Ev.new hp) n1 n2
    · cases e
theorem xSl {e : Expr} {lo hi : Option Expr} {f : ME} {l u : MO} {pos p2 : Pos} (hK : X.K = Y.K) (he : PE X e (TM Y f)) (hl : PO X lo (TMO Y l)) (hu : PO X hi (TMO Y u)) : PE X (.Subscript e (.Slice lo hi none p2) pos) (TM Y (eSl f l u)) :=
  pe_imp (pe_slice (r := rSl Y.K) (by rw [← hK]; exact oSl) he hl hu) fun σ H Q q => by
    obtain ⟨ρ, τ, h, t, h', G, e, to⟩ := q
    unfold eSl at e
    cases e1 : f τ h with
    | bad => simp only [e1] at e; cases e
    | ok a h1 =>
      simp only [e1] at e
      cases e2 : l τ h1 with
      | bad => simp only [e2] at e; cases e
      | ok lv h2 =>
        simp only [e2] at e
        cases e3 : u τ h2 with
        | bad => simp only [e3] at e; cases e
        | ok uv h3 =>
          simp only [e3] at e
          refine ⟨ρ, τ, h, a, h1, G, e1, ⟨fun ρ1 H1 va ev hr1 ra => ⟨ρ1, τ, h1, lv, h2, G.ev ev hr1, e2, ⟨fun ρ2 H2 vl ev2 hr2 el => ?_⟩⟩⟩⟩
          subst el
          refine ⟨ρ2, τ, h2, uv, h3, G.ev (ev.trans ev2) hr2, e3, ⟨fun ρ3 H3 vu ev3 hr3 eu => ?_⟩⟩
          subst eu
          exact sl_ok (ra.ev (ev2.trans ev3).toEvR) hr3 e (to.ev ((ev.trans ev2).trans ev3))
/-! unary minus -/
def eNeg (f : ME) : ME := fun τ h => match f τ h with
  | .ok (.int i) h1 => .ok (.int (-i)) h1
  | _ => .bad
end
end TL

set_option Elab.async false
set_option linter.all false
set_option maxRecDepth 100000
set_option maxHeartbeats 4000000
namespace TL
open PySem PySem.Spec L2
section
variable {X : Cx} {Y : Wd}
/-! ### one-place operations -/
theorem xNeg {a : Expr} {f : ME} {pos : Pos} (ha : PE X a (TM Y f)) : PE X (.UnaryOp .USub a pos) (TM Y (eNeg f)) := pe_imp (pe_un un_neg ha) fun σ H Q q => by
  obtain ⟨ρ, τ, h, t, h', G, e, to⟩ := q
  unfold eNeg at e
  split at e
  · rename_i i h1 e1
    cases e
    exact ⟨ρ, τ, h, _, _, G, e1, ⟨fun ρ1 H1 v ev hr r => by cases r; exact ⟨_, rfl, to.to ρ1 H1 _ ev hr (.int _)⟩⟩⟩
  · cases e
/-! ### a < b < c -/
def eChain (b b' : T → T → VH → Res T) (f g k : ME) : ME := fun τ h => match f τ h with
  | .ok x h1 => (match g τ h1 with
    | .ok y h2 => (match b x y h2 with
      | .ok (.bl true) h3 => (match k τ h3 with
        | .ok z h4 => b' y z h4
        | .bad => .bad)
      | .ok (.bl false) h3 => .ok (.bl false) h3
      | _ => .bad)
    | .bad => .bad)
  | .bad => .bad
theorem tm_chain {r r' : R2} {b b' : T → T → VH → Res T} (o1 : OT Y r b) (o2 : OT Y r' b') {f g k : ME} {σ : St} {H : Hp} {Q : VK} (q : TM Y (eChain b b' f g k) σ H Q) : tChain r r' (TM Y f) (TM Y g) (TM Y k) σ H Q := by
  obtain ⟨ρ, τ, h, t, h', G, e, to⟩ := q
  unfold eChain at e
  cases e1 : f τ h with
  | bad => simp only [e1] at e; cases e
  | ok x h1 =>
    simp only [e1] at e
    refine ⟨ρ, τ, h, x, h1, G, e1, ⟨fun ρ1 H1 vx ev1 hr1 rx => ?_⟩⟩
    cases e2 : g τ h1 with
    | bad => simp only [e2] at e; cases e
    | ok y h2 =>
      simp only [e2] at e
      refine ⟨ρ1, τ, h1, y, h2, G.ev ev1 hr1, e2, ⟨fun ρ2 H2 vy ev2 hr2 ry => ?_⟩⟩
      have ev12 := ev1.trans ev2
      split at e
      · rename_i h3 e3
        refine o1 ρ2 H2 x y vx vy h2 _ h3 _ (rx.ev ev2.toEvR) ry hr2 e3 ⟨fun ρ3 H3 v3 ev3 hr3 r3 => ?_⟩
        cases r3
        refine ⟨true, rfl, iteT ?_⟩
        have ev13 := ev12.trans ev3
        cases e4 : k τ h3 with
        | bad => simp only [e4] at e; cases e
        | ok z h4 =>
          simp only [e4] at e
          exact ⟨ρ3, τ, h3, z, h4, G.ev ev13 hr3, e4, ⟨fun ρ4 H4 vz ev4 hr4 rz => o2 ρ4 H4 y z vy vz h4 t h' Q (ry.ev (ev3.trans ev4).toEvR) rz hr4 e (to.ev (ev13.trans ev4))⟩⟩
      · rename_i h3 e3
        cases e
        refine o1 ρ2 H2 x y vx vy h2 _ _ _ (rx.ev ev2.toEvR) ry hr2 e3 ⟨fun ρ3 H3 v3 ev3 hr3 r3 => ?_⟩
        cases r3
        exact ⟨false, rfl, iteF (to.to ρ3 H3 _ (ev12.trans ev3) hr3 (.bl _))⟩
      · cases e
theorem xChain {a b c : Expr} {pos : Pos} {op op' : CmpOp} {r r' : R2} {bb bb' : T → T → VH → Res T} (t1 : OT Y r bb) (t2 : OT Y r' bb') {f g k : ME} (o1 : OpR X (compareOp op) r) (o2 : OpR X (compareOp op') r') (ha : PE X a (TM Y f)) (hb : PE X b (TM Y g)) (hc : PE X c (TM Y k))
    (hm : lastMarks [op, op'] [b, c] = false := by with_unfolding_all rfl) : PE X (.Compare a [op, op'] [b, c] pos) (TM Y (eChain bb bb' f g k)) := pe_imp (pe_chain o1 o2 ha hb hc hm) fun σ H Q q => tm_chain t1 t2 q
theorem xtChain {a b c : Expr} {pos : Pos} {op op' : CmpOp} {r r' : R2} {bb bb' : T → T → VH → Res T} (t1 : OT Y r bb) (t2 : OT Y r' bb') {f g k : ME} (o1 : OpR X (compareOp op) r) (o2 : OpR X (compareOp op') r') (ha : PE X a (TM Y f)) (hb : PE X b (TM Y g)) (hc : PE X c (TM Y k))
    (hm : lastMarks [op, op'] [b, c] = false := by with_unfolding_all rfl) : PT X (.Compare a [op, op'] [b, c] pos) (TMB Y (bTest (eChain bb bb' f g k))) := pt_imp (pt_chain o1 o2 ha hb hc hm) fun σ H Q q => by
  obtain ⟨ρ, τ, h, u, h', G, e, to⟩ := q
  refine tm_chain t1 t2 (Q := fun x H' => ∃ k, x = .bl k ∧ Q k H') ?_
  unfold bTest at e
  split at e
  · rename_i b h1 e1
    cases e
    refine ⟨ρ, τ, h, _, _, G, e1, ⟨fun ρ1 H1 v ev hr r => ?_⟩⟩
    cases r
    exact ⟨_, rfl, to.to ρ1 H1 _ ev hr rfl⟩
  · cases e

/-! ### a call that lays a new list -/
def CTF (Y : Wd) (r : List V → Hp → VK → Prop) (b : List T → VH → Res (List T)) : Prop := ∀ ρ H ts vs h us h' Q, Rps Y ρ H ts vs → HR Y ρ H h → b ts h = .ok us h' →
  (∀ ρ' H' D ws, Ev ρ H ρ' H' → HR Y ρ' H' h' → H D = none → LstAt Y ρ' H' D ws → Rps Y ρ' H' us ws → HR Y (ρ'.push D) H' (h' ++ [.lst us]) → Q (.ref D) H') → r vs H Q
def mCall (b : List T → VH → Res (List T)) (g : MA) : MA := fun τ h => match g τ h with
  | .ok ts h1 => b ts h1
  | .bad => .bad
theorem tm_callF {r : List V → Hp → VK → Prop} {b : List T → VH → Res (List T)} (ct : CTF Y r b) {g : MA} {σ : St} {H : Hp} {Q : VK} (q : TMF Y (mCall b g) σ H Q) : TMA Y g σ H fun vs H1 => r vs H1 Q := by
  obtain ⟨ρ, τ, h, us, h', G, e, to⟩ := q
  unfold mCall at e
  cases e1 : g τ h with
  | bad => simp only [e1] at e; cases e
  | ok ts h1 =>
    simp only [e1] at e
    exact ⟨ρ, τ, h, ts, h1, G, e1, ⟨fun ρ1 H1 vs ev hr rs => ct ρ1 H1 ts vs h1 us h' Q rs hr e fun ρ' H' D ws ev' hr' hD => to ρ' H' D ws (ev.trans ev') hr' (ev.fresh hD)⟩⟩
/-- a new list laid -/
theorem lay {ρ : Rh} {H : Hp} {h : VH} {us : List T} {ws : List V} {Q : VK} (hr : HR Y ρ H h) (rs : Rps Y ρ H us ws) (hz : ws.length ≤ sizeLine)
    (to : ∀ ρ' H' D ws, Ev ρ H ρ' H' → HR Y ρ' H' h → H D = none → LstAt Y ρ' H' D ws → Rps Y ρ' H' us ws → HR Y (ρ'.push D) H' (h ++ [.lst us]) → Q (.ref D) H') : ∀ p, H p = none → Q (.ref p) (upd H p (.lst ws)) := fun p hp => by
  obtain ⟨n1, n2, n3, n4⟩ := newL hr rs hz hp
  exact to ρ _ p ws (Ev.new hp) n1 hp n2 n3 n4
theorem xCallBF {id : String} {x : Str} {r : List V → Hp → VK → Prop} {b : List T → VH → Res (List T)} (ct : CTF Y r b) {e : Expr} {es : List Expr} {g : MA} {p pos : Pos} (hc : CallR X (.builtin id) r) (hg : Gl X x) (hm : X.mg x = none) (hv : bootBuiltins x = some (.builtin id)) (ha : PA X (e :: es) (TMA Y g)) (hn : x ≠ "__name__" := by decide) (hdb : (x == ("__debug__" : Str)) = false := by decide)
    (he : starEach (e :: es) X.env = (false, eval e X.env) :: starEach es X.env := by rfl) (hpl : (backTo pos (starEach es X.env)).any (·.1) = false := by rfl) :
    PE X (.Call (.Name x p) (e :: es) [] pos) (TMF Y (mCall b g)) := pe_imp (pe_callB hc hg hm hv ha hn hdb he hpl) fun σ H Q q => tm_callF ct q
theorem xCallTyF {T' : String} {x : Str} {r : List V → Hp → VK → Prop} {b : List T → VH → Res (List T)} (ct : CTF Y r b) {e : Expr} {es : List Expr} {g : MA} {p pos : Pos} (hc : CallR X (.type T') r) (hg : Gl X x) (hm : X.mg x = none) (hv : bootBuiltins x = some (.type T')) (ha : PA X (e :: es) (TMA Y g)) (hn : x ≠ "__name__" := by decide) (hdb : (x == ("__debug__" : Str)) = false := by decide)
    (he : starEach (e :: es) X.env = (false, eval e X.env) :: starEach es X.env := by rfl) (hpl : (backTo pos (starEach es X.env)).any (·.1) = false := by rfl) :
    PE X (.Call (.Name x p) (e :: es) [] pos) (TMF Y (mCall b g)) := pe_imp (pe_callTy hc hg hm hv ha hn hdb he hpl) fun σ H Q q => tm_callF ct q

/-! ### the built-in functions -/
def fLen (ts : List T) (h : VH) : Res T := match ts with
  | [.str z] => .ok (.int z.length) h
  | [t] => (match seqOf h t with
    | some us => .ok (.int us.length) h
    | none => .bad)
  | _ => .bad
theorem rps_one {ρ : Rh} {H : Hp} {t : T} {vs : List V} (r : Rps Y ρ H [t] vs) : ∃ v, vs = [v] ∧ Rp Y ρ H t v := by
  cases r with
  | cons a b => cases b; exact ⟨_, rfl, a⟩
theorem rps_two {ρ : Rh} {H : Hp} {t u : T} {vs : List V} (r : Rps Y ρ H [t, u] vs) : ∃ v w, vs = [v, w] ∧ Rp Y ρ H t v ∧ Rp Y ρ H u w := by
  cases r with
  | cons a b => obtain ⟨w, rfl, r⟩ := rps_one b; exact ⟨_, _, rfl, a, r⟩
def rLen (K : PySem.W.Frag) : List V → Hp → VK → Prop := fun xs H Q => ∃ x n, xs = [x] ∧ LenV K x H n ∧ Q (.int n) H
theorem ct_len : CT Y (rLen Y.K) fLen := fun ρ H ts vs h t h' Q r hr e to => by
  unfold fLen at e
  split at e
  · cases e
    obtain ⟨v, rfl, rv⟩ := rps_one r
    cases rv with
    | str hz => exact ⟨_, _, rfl, ⟨by rw [sizeLine_eq]; omega, rfl⟩, to.to ρ H _ .refl hr (.int _)⟩
  · split at e
    · rename_i us e1
      cases e
      obtain ⟨v, rfl, rv⟩ := rps_one r
      obtain ⟨a, ws, rfl, hs, hz, rs⟩ := seqOf_ok rv hr e1
      refine ⟨_, us.length, rfl, ?_, to.to ρ H _ .refl hr (.int _)⟩
      rw [← rs.length]
      exact hs.elim (fun z => .inl ⟨ws, z, rfl⟩) fun z => .inr ⟨ws, z, rfl⟩
    · cases e
  · cases e
/-- list(xs) -/
def fList (ts : List T) (h : VH) : Res (List T) := match ts with
  | [t] => (match seqOf h t with
    | some us => .ok us h
    | none => .bad)
  | _ => .bad
def rListOf (K : PySem.W.Frag) : List V → Hp → VK → Prop := fun xs H Q => ∃ p ys, xs = [.ref p] ∧ (SqL K H p ys ∨ SqT K H p ys) ∧ ∀ l, H l = none → Q (.ref l) (upd H l (.lst ys))
theorem ct_list : CTF Y (rListOf Y.K) fList := fun ρ H ts vs h us h' Q r hr e to => by
  unfold fList at e
  split at e
  · split at e
    · rename_i us' e1
      cases e
      obtain ⟨v, rfl, rv⟩ := rps_one r
      obtain ⟨a, ws, rfl, hs, hz, rs⟩ := seqOf_ok rv hr e1
      exact ⟨a, ws, rfl, hs, lay hr rs hz to⟩
    · cases e
  · cases e
/-- tuple(xs) -/
def fTuple (ts : List T) (h : VH) : Res T := match ts with
  | [t] => (match seqOf h t with
    | some us => .ok (.tup us) h
    | none => .bad)
  | _ => .bad
def rTupleOf (K : PySem.W.Frag) : List V → Hp → VK → Prop := fun xs H Q => ∃ p ys, xs = [.ref p] ∧ ((SqL K H p ys ∧ ∀ l, H l = none → Q (.ref l) (upd H l (.tup ys))) ∨ (SqT K H p ys ∧ Q (.ref p) H))
theorem ct_tuple : CT Y (rTupleOf Y.K) fTuple := fun ρ H ts vs h t h' Q r hr e to => by
  unfold fTuple at e
  split at e
  · split at e
    · rename_i us' e1
      cases e
      obtain ⟨v, rfl, rv⟩ := rps_one r
      cases rv with
      | tup ta rs =>
        simp only [seqOf, Option.some.injEq] at e1
        subst e1
        exact ⟨_, _, rfl, .inr ⟨ta.sq, to.to ρ H _ .refl hr (.tup ta rs)⟩⟩
      | arg la rs =>
        simp only [seqOf, Option.some.injEq] at e1
        subst e1
        refine ⟨_, _, rfl, .inl ⟨la.sq, fun l hl => ?_⟩⟩
        obtain ⟨n1, n2⟩ := newT hr rs la.1 hl
        exact to.to ρ _ _ (Ev.new hl) n1 n2
      | lst la rs =>
        obtain ⟨a, ws, e2, hs, hz, rs⟩ := listOf_ok (.lst la rs) hr (show listOf h _ = some _ from e1)
        cases e2
        refine ⟨_, ws, rfl, .inl ⟨hs, fun l hl => ?_⟩⟩
        obtain ⟨n1, n2⟩ := newT hr rs hz hl
        exact to.to ρ _ _ (Ev.new hl) n1 n2
      | ref ha =>
        obtain ⟨a, ws, e2, hs, hz, rs⟩ := listOf_ok (.ref ha) hr (show listOf h _ = some _ from e1)
        cases e2
        refine ⟨_, ws, rfl, .inl ⟨hs, fun l hl => ?_⟩⟩
        obtain ⟨n1, n2⟩ := newT hr rs hz hl
        exact to.to ρ _ _ (Ev.new hl) n1 n2
      | _ => cases e1
    · cases e
  · cases e
def intsOf : List T → Option (List Int)
  | [] => some []
  | .int i :: r => (intsOf r).map (i :: ·)
  | _ => none
def blsOf : List T → Option (List Bool)
  | [] => some []
  | .bl i :: r => (blsOf r).map (i :: ·)
  | _ => none
theorem intsOf_ok {ρ : Rh} {H : Hp} : ∀ {ts : List T} {vs : List V} {ns : List Int}, Rps Y ρ H ts vs → intsOf ts = some ns → vs = ns.map V.int
  | [], _, ns, r, e => by cases r; cases e; rfl
  | t :: ts, _, ns, r, e => by
    cases r with
    | cons a b =>
      cases t with
      | int i =>
        simp only [intsOf, Option.map_eq_some_iff] at e
        obtain ⟨ms, e1, rfl⟩ := e
        cases a
        rw [intsOf_ok b e1]; rfl
      | _ => cases e
theorem blsOf_ok {ρ : Rh} {H : Hp} : ∀ {ts : List T} {vs : List V} {ns : List Bool}, Rps Y ρ H ts vs → blsOf ts = some ns → vs = ns.map V.bl
  | [], _, ns, r, e => by cases r; cases e; rfl
  | t :: ts, _, ns, r, e => by
    cases r with
    | cons a b =>
      cases t with
      | bl i =>
        simp only [blsOf, Option.map_eq_some_iff] at e
        obtain ⟨ms, e1, rfl⟩ := e
        cases a
        rw [blsOf_ok b e1]; rfl
      | _ => cases e
/-- a function of a list of ints -/
def fInts (g : List Int → Option Int) (ts : List T) (h : VH) : Res T := match ts with
  | [t] => (match listOf h t with
    | some us => (match intsOf us with
      | some ns => (match g ns with
        | some m => .ok (.int m) h
        | none => .bad)
      | none => .bad)
    | none => .bad)
  | _ => .bad
def maxI : List Int → Option Int
  | [] => none
  | x :: r => some (r.foldl max x)
def minI : List Int → Option Int
  | [] => none
  | x :: r => some (r.foldl min x)
def fSum := fInts fun ns => some ns.sum
def fMax := fInts maxI
def fMin := fInts minI
theorem ints_arg {g : List Int → Option Int} {ρ : Rh} {H : Hp} {ts : List T} {vs : List V} {h h' : VH} {t : T} (r : Rps Y ρ H ts vs) (hr : HR Y ρ H h) (e : fInts g ts h = .ok t h') : ∃ a ns m, vs = [.ref a] ∧ SqL Y.K H a (ns.map V.int) ∧ g ns = some m ∧ t = .int m ∧ h' = h := by
  unfold fInts at e
  split at e
  · split at e
    · rename_i us e1
      split at e
      · rename_i ns e2
        split at e
        · rename_i m e3
          cases e
          obtain ⟨v, rfl, rv⟩ := rps_one r
          obtain ⟨a, ws, rfl, hs, hz, rs⟩ := listOf_ok rv hr e1
          rw [intsOf_ok rs e2] at hs
          exact ⟨a, ns, m, rfl, hs, e3, rfl, rfl⟩
        · cases e
      · cases e
    · cases e
  · cases e
theorem ct_sum : CT Y (rSum Y.K) fSum := fun ρ H ts vs h t h' Q r hr e to => by
  obtain ⟨a, ns, m, rfl, hs, e3, rfl, rfl⟩ := ints_arg r hr e
  cases e3
  exact ⟨a, ns, rfl, hs, to.to ρ H _ .refl hr (.int _)⟩
theorem foldl_max_spec : ∀ (r : List Int) (x : Int), (∀ y, y ∈ x :: r → y ≤ r.foldl max x) ∧ r.foldl max x ∈ x :: r
  | [], x => ⟨fun y h => by simp at h; simp [h], by simp⟩
  | z :: r, x => by
    obtain ⟨h1, h2⟩ := foldl_max_spec r (max x z)
    refine ⟨fun y hy => ?_, ?_⟩
    · rw [List.foldl_cons]
      rcases List.mem_cons.mp hy with e | hy
      · have := h1 (max x z) List.mem_cons_self; omega
      · rcases List.mem_cons.mp hy with e | hy
        · have := h1 (max x z) List.mem_cons_self; omega
        · exact h1 y (List.mem_cons_of_mem _ hy)
    · rw [List.foldl_cons]
      rcases List.mem_cons.mp h2 with e | e
      · rw [e]
        rcases Int.le_total x z with c | c
        · rw [Int.max_eq_right c]; simp
        · rw [Int.max_eq_left c]; simp
      · exact List.mem_cons_of_mem _ (List.mem_cons_of_mem _ e)
theorem foldl_min_spec : ∀ (r : List Int) (x : Int), (∀ y, y ∈ x :: r → r.foldl min x ≤ y) ∧ r.foldl min x ∈ x :: r
  | [], x => ⟨fun y h => by simp at h; simp [h], by simp⟩
  | z :: r, x => by
    obtain ⟨h1, h2⟩ := foldl_min_spec r (min x z)
    refine ⟨fun y hy => ?_, ?_⟩
    · rw [List.foldl_cons]
      rcases List.mem_cons.mp hy with e | hy
      · have := h1 (min x z) List.mem_cons_self; omega
      · rcases List.mem_cons.mp hy with e | hy
        · have := h1 (min x z) List.mem_cons_self; omega
        · exact h1 y (List.mem_cons_of_mem _ hy)
    · rw [List.foldl_cons]
      rcases List.mem_cons.mp h2 with e | e
      · rw [e]
        rcases Int.le_total x z with c | c
        · rw [Int.min_eq_left c]; simp
        · rw [Int.min_eq_right c]; simp
      · exact List.mem_cons_of_mem _ (List.mem_cons_of_mem _ e)
theorem ct_max : CT Y (rMax Y.K) fMax := fun ρ H ts vs h t h' Q r hr e to => by
  obtain ⟨a, ns, m, rfl, hs, e3, rfl, rfl⟩ := ints_arg r hr e
  cases ns with
  | nil => cases e3
  | cons x xs =>
    cases e3
    refine ⟨a, _, rfl, hs, by simp, fun m hm hall => ?_⟩
    obtain ⟨h1, h2⟩ := foldl_max_spec xs x
    have e : m = xs.foldl max x := Int.le_antisymm (h1 m hm) (hall _ h2)
    rw [e]
    exact to.to ρ H _ .refl hr (.int _)
theorem ct_min : CT Y (rMin Y.K) fMin := fun ρ H ts vs h t h' Q r hr e to => by
  obtain ⟨a, ns, m, rfl, hs, e3, rfl, rfl⟩ := ints_arg r hr e
  cases ns with
  | nil => cases e3
  | cons x xs =>
    cases e3
    refine ⟨a, _, rfl, hs, by simp, fun m hm hall => ?_⟩
    obtain ⟨h1, h2⟩ := foldl_min_spec xs x
    have e : m = xs.foldl min x := Int.le_antisymm (hall _ h2) (h1 m hm)
    rw [e]
    exact to.to ρ H _ .refl hr (.int _)
def fBls (g : List Bool → Bool) (ts : List T) (h : VH) : Res T := match ts with
  | [t] => (match listOf h t with
    | some us => (match blsOf us with
      | some ns => .ok (.bl (g ns)) h
      | none => .bad)
    | none => .bad)
  | _ => .bad
def fAll := fBls fun bs => bs.all id
def fAny := fBls fun bs => bs.any id
def rBls (K : PySem.W.Frag) (g : List Bool → Bool) : List V → Hp → VK → Prop := fun vs H Q => ∃ (a : Addr) (bs : List Bool), vs = [V.ref a] ∧ SqL K H a (bs.map V.bl) ∧ Q (.bl (g bs)) H
theorem ct_bls (g : List Bool → Bool) : CT Y (rBls Y.K g) (fBls g) := fun ρ H ts vs h t h' Q r hr e to => by
  unfold fBls at e
  split at e
  · split at e
    · rename_i us e1
      split at e
      · rename_i ns e2
        cases e
        obtain ⟨v, rfl, rv⟩ := rps_one r
        obtain ⟨a, ws, rfl, hs, hz, rs⟩ := listOf_ok rv hr e1
        rw [blsOf_ok rs e2] at hs
        exact ⟨a, ns, rfl, hs, to.to ρ H _ .refl hr (.bl _)⟩
      · cases e
    · cases e
  · cases e
theorem ct_all : CT Y (rAll Y.K) fAll := ct_bls _
theorem ct_any : CT Y (rAny Y.K) fAny := ct_bls _
def fAbs (ts : List T) (h : VH) : Res T := match ts with
  | [.int i] => .ok (.int (if i < 0 then -i else i)) h
  | _ => .bad
theorem ct_abs : CT Y (fun xs H Q => ∃ i, xs = [V.int i] ∧ Q (.int (if i < 0 then -i else i)) H) fAbs := fun ρ H ts vs h t h' Q r hr e to => by
  unfold fAbs at e
  split at e
  · cases e
    obtain ⟨v, rfl, rv⟩ := rps_one r
    cases rv
    exact ⟨_, rfl, to.to ρ H _ .refl hr (.int _)⟩
  · cases e
/-- int(x) -/
def fInt (ts : List T) (h : VH) : Res T := match ts with
  | [.int i] => .ok (.int i) h
  | [.bl b] => .ok (.int (if b = true then 1 else 0)) h
  | [.str a] => (match intText? a with
    | some n => if a.length ≤ 640 then .ok (.int n) h else .bad
    | none => .bad)
  | _ => .bad
def rInt1 : List V → Hp → VK → Prop := fun xs H Q => (∃ i, xs = [V.int i] ∧ Q (.int i) H) ∨ ∃ k, xs = [V.bl k] ∧ Q (.int (if k = true then 1 else 0)) H
def rIntS : List V → Hp → VK → Prop := fun xs H Q => ∃ a n, xs = [V.str a] ∧ intText? a = some n ∧ a.length ≤ 640 ∧ Q (.int n) H
def rInt : List V → Hp → VK → Prop := fun xs H Q => rInt1 xs H Q ∨ rIntS xs H Q
theorem oInt : CallR X (.type "int") rInt := CallR.or (r := rInt1) (r' := rIntS) call_int1 call_int_str
theorem ct_int : CT Y rInt fInt := fun ρ H ts vs h t h' Q r hr e to => by
  unfold fInt at e
  split at e
  · cases e
    obtain ⟨v, rfl, rv⟩ := rps_one r
    cases rv
    exact .inl (.inl ⟨_, rfl, to.to ρ H _ .refl hr (.int _)⟩)
  · cases e
    obtain ⟨v, rfl, rv⟩ := rps_one r
    cases rv
    exact .inl (.inr ⟨_, rfl, to.to ρ H _ .refl hr (.int _)⟩)
  · split at e
    · rename_i n en
      split at e
      · rename_i hz
        cases e
        obtain ⟨v, rfl, rv⟩ := rps_one r
        cases rv
        exact .inr ⟨_, n, rfl, en, hz, to.to ρ H _ .refl hr (.int _)⟩
      · cases e
    · cases e
  · cases e
/-- str(x) -/
def fStr (ts : List T) (h : VH) : Res T := match ts with
  | [.int i] => if i.natAbs.log2 < 1920 ∧ (Str.ofString (toString i)).length ≤ 1000000 then .ok (.str (Str.ofString (toString i))) h else .bad
  | _ => .bad
theorem ct_str : CT Y (fun xs H Q => ∃ i, xs = [V.int i] ∧ i.natAbs.log2 < 1920 ∧ Q (.str (Str.ofString (toString i))) H) fStr := fun ρ H ts vs h t h' Q r hr e to => by
  unfold fStr at e
  split at e
  · split at e
    · rename_i hz
      cases e
      obtain ⟨v, rfl, rv⟩ := rps_one r
      cases rv
      exact ⟨_, rfl, hz.1, to.to ρ H _ .refl hr (.str hz.2)⟩
    · cases e
  · cases e
def fII (g : Int → Int → Int) (ts : List T) (h : VH) : Res T := match ts with
  | [.int i, .int j] => .ok (.int (g i j)) h
  | _ => .bad
def fMax2 := fII fun i j => if j > i then j else i
def fMin2 := fII fun i j => if j < i then j else i
theorem ct_II (g : Int → Int → Int) : CT Y (fun xs H Q => ∃ i j, xs = [V.int i, V.int j] ∧ Q (.int (g i j)) H) (fII g) := fun ρ H ts vs h t h' Q r hr e to => by
  unfold fII at e
  split at e
  · cases e
    obtain ⟨v, w, rfl, rv, rw'⟩ := rps_two r
    cases rv
    cases rw'
    exact ⟨_, _, rfl, to.to ρ H _ .refl hr (.int _)⟩
  · cases e
theorem ct_max2 : CT Y (fun xs H Q => ∃ i j, xs = [V.int i, V.int j] ∧ Q (.int (if j > i then j else i)) H) fMax2 := ct_II _
theorem ct_min2 : CT Y (fun xs H Q => ∃ i j, xs = [V.int i, V.int j] ∧ Q (.int (if j < i then j else i)) H) fMin2 := ct_II _
def fDivmod (ts : List T) (h : VH) : Res T := match ts with
  | [.int i, .int j] => if 0 < j ∧ Builtin.divisionGoesByPylong i j = false then .ok (.tup [.int (i / j), .int (i % j)]) h else .bad
  | _ => .bad
theorem ct_divmod : CT Y (fun xs H Q => ∃ i j, xs = [V.int i, V.int j] ∧ CDivP i j ∧ ∀ p, H p = none → Q (.ref p) (upd H p (.tup [.int (i / j), .int (i % j)]))) fDivmod := fun ρ H ts vs h t h' Q r hr e to => by
  unfold fDivmod at e
  split at e
  · split at e
    · rename_i hz
      cases e
      obtain ⟨v, w, rfl, rv, rw'⟩ := rps_two r
      cases rv
      cases rw'
      refine ⟨_, _, rfl, hz, fun p hp => ?_⟩
      obtain ⟨n1, n2⟩ := newT (vs := [.int _, .int _]) hr (.cons (.int _) (.cons (.int _) .nil)) (by rw [sizeLine_eq]; exact Nat.le_of_ble_eq_true rfl) hp
      exact to.to ρ _ _ (Ev.new hp) n1 n2
    · cases e
  · cases e
end
end TL

set_option Elab.async false
set_option linter.all false
set_option maxRecDepth 100000
set_option maxHeartbeats 4000000
namespace TL
open PySem PySem.Spec L2
section
variable {X : Cx} {Y : Wd}
/-! ### walks -/
theorem wk_list {v : V} {t : T} {ρ : Rh} {H : Hp} {a : Addr} (r : Rp Y ρ H t (.ref a)) : Wk Y (Itl Y.K a) (fun h => listOf h t) ρ H := by
  refine ⟨fun ρ1 H1 h ts i u ev hr e ei => ?_, fun ρ1 H1 h ts i ev hr e hl => ?_⟩
  · obtain ⟨b, vs, eb, hs, hz, rs⟩ := listOf_ok (r.ev ev) hr e
    cases eb
    obtain ⟨w, ew, rw'⟩ := rs.get ei
    refine ⟨⟨vs, w, hs, ew⟩, fun x H' y => ?_⟩
    obtain ⟨rfl, hx⟩ := y
    have e2 := hx vs hs
    rw [ew] at e2
    cases e2
    exact ⟨.refl, hr, rw'⟩
  · obtain ⟨b, vs, eb, hs, hz, rs⟩ := listOf_ok (r.ev ev) hr e
    cases eb
    exact ⟨vs, hs, by rw [rs.length]; exact hl⟩
theorem wk_tup {t : T} {ρ : Rh} {H : Hp} {a : Addr} (r : Rp Y ρ H t (.ref a)) : Wk Y (Itt Y.K a) (fun _ => tupOf t) ρ H := by
  refine ⟨fun ρ1 H1 h ts i u ev hr e ei => ?_, fun ρ1 H1 h ts i ev hr e hl => ?_⟩
  · obtain ⟨b, vs, eb, hs, hz, rs⟩ := tupOf_ok (r.ev ev) e
    cases eb
    obtain ⟨w, ew, rw'⟩ := rs.get ei
    refine ⟨⟨vs, w, hs, ew⟩, fun x H' y => ?_⟩
    obtain ⟨rfl, hx⟩ := y
    have e2 := hx vs hs
    rw [ew] at e2
    cases e2
    exact ⟨.refl, hr, rw'⟩
  · obtain ⟨b, vs, eb, hs, hz, rs⟩ := tupOf_ok (r.ev ev) e
    cases eb
    exact ⟨vs, hs, by rw [rs.length]; exact hl⟩
/-- a text's signs -/
def signsT (x : Str) : List T := x.cps.toList.map fun c => .str ⟨#[c]⟩
theorem wk_str {x : Str} {ρ : Rh} {H : Hp} : Wk Y (Its x) (fun _ => some (signsT x)) ρ H := by
  refine ⟨fun ρ1 H1 h ts i u ev hr e ei => ?_, fun ρ1 H1 h ts i ev hr e hl => ?_⟩
  · cases e
    unfold signsT at ei
    rw [List.getElem?_map] at ei
    cases q : x.cps.toList[i]? with
    | none => rw [q] at ei; cases ei
    | some c =>
      rw [q] at ei
      cases ei
      rw [Array.getElem?_toList] at q
      refine ⟨(Array.getElem?_eq_some_iff.mp q).1, fun v H' y => ?_⟩
      obtain ⟨rfl, c', hc, rfl⟩ := y
      rw [q] at hc
      cases hc
      exact ⟨.refl, hr, .str (by show (#[_] : Array Nat).size ≤ _; simp)⟩
  · cases e
    show x.cps.size ≤ i
    unfold signsT at hl
    simpa using hl
def seqS (h : VH) : T → Option (List T)
  | .str x => some (signsT x)
  | .arg _ => none
  | t => seqOf h t
def iSeq (f : ME) : MI := fun τ h => match f τ h with
  | .ok t h1 => .ok (fun h => seqS h t) h1
  | .bad => .bad
theorem wk_at {J : It} {rd rd' : VH → Option (List T)} {ρ : Rh} {H : Hp} (w : Wk Y J rd ρ H) (e : ∀ h, rd' h = rd h) : Wk Y J rd' ρ H :=
  ⟨fun ρ1 H1 h ts i u ev hr q => w.go ρ1 H1 h ts i u ev hr (by rw [← e]; exact q), fun ρ1 H1 h ts i ev hr q => w.stop ρ1 H1 h ts i ev hr (by rw [← e]; exact q)⟩
/-- only what can be walked -/
def walkable (h : VH) (t : T) : Bool := (seqS h t).isSome
def iSeqC (f : ME) : MI := fun τ h => match f τ h with
  | .ok t h1 => if walkable h1 t = true then .ok (fun h => seqS h t) h1 else .bad
  | .bad => .bad
/-- which of the library's three walks it is, the value's form tells -/
theorem xiSeq {tg e : Expr} {f : ME} (hK : X.K = Y.K) (he : PE X e (TM Y f)) : PI X tg e (TMI Y (iSeqC f)) := by
  constructor
  intro pins s σ H R I q
  obtain ⟨ρ, τ, h, rd, h', G, e, to⟩ := q
  unfold iSeqC at e
  cases e1 : f τ h with
  | bad => rw [e1] at e; cases e
  | ok t h1 =>
    rw [e1] at e
    by_cases hw : walkable h1 t = true
    case neg => simp only [hw] at e; cases e
    simp only [hw, if_true] at e
    cases e
    have asList : (∀ ρ1 H1 v, Ev ρ H ρ1 H1 → HR Y ρ1 H1 h' → Rp Y ρ1 H1 t v → ∃ a, v = .ref a ∧ (∃ xs, SqL X.K H1 a xs) ∧ R (Itl X.K a) H1) → wpAny (model X.prog X.w) X.A (eval _ X.env) (fun v s1 => wpAny (model X.prog X.w) X.A (pyIter v) (PIE X pins σ tg R) X.xe s1) X.xe s :=
      fun k => (pi_list he).run pins s σ H R I ⟨ρ, τ, h, t, _, G, e1, ⟨fun ρ1 H1 v ev hr r => k ρ1 H1 v ev hr r⟩⟩
    cases t with
    | str z => exact (pi_str he).run pins s σ H R I ⟨ρ, τ, h, _, _, G, e1, ⟨fun ρ1 H1 v ev hr r => by cases r; exact ⟨_, rfl, to ρ1 H1 _ ev hr wk_str⟩⟩⟩
    | tup ts =>
      refine (pi_tup he).run pins s σ H R I ⟨ρ, τ, h, _, _, G, e1, ⟨fun ρ1 H1 v ev hr r => ?_⟩⟩
      rw [hK]
      cases r with
      | tup ta rs => exact ⟨_, rfl, ⟨_, ta.sq⟩, to ρ1 H1 _ ev hr (wk_at (wk_tup (.tup ta rs)) fun _ => rfl)⟩
    | lst ts =>
      refine asList fun ρ1 H1 v ev hr r => ?_
      rw [hK]
      cases r with
      | lst la rs => exact ⟨_, rfl, ⟨_, la.sq⟩, to ρ1 H1 _ ev hr (wk_at (wk_list (v := .non) (.lst la rs)) fun _ => rfl)⟩
    | ref n =>
      refine asList fun ρ1 H1 v ev hr r => ?_
      rw [hK]
      obtain ⟨ts, ets⟩ := Option.isSome_iff_exists.mp (show (seqS h' (.ref n)).isSome = true from hw)
      obtain ⟨b, vs, eb, hs, hz, rs⟩ := listOf_ok r hr (show listOf _ _ = some ts from ets)
      subst eb
      exact ⟨_, rfl, ⟨_, hs⟩, to ρ1 H1 _ ev hr (wk_at (wk_list (v := .non) r) fun _ => rfl)⟩
    | _ => cases hw
/-- lo, lo + 1, .. -/
def rangeT (lo : Int) (n : Nat) : List T := (List.range n).map fun (i : Nat) => T.int (lo + i)
theorem wk_range {lo : Int} {n : Nat} {ρ : Rh} {H : Hp} : Wk Y (Itr lo n) (fun _ => some (rangeT lo n)) ρ H := by
  refine ⟨fun ρ1 H1 h ts i u ev hr e ei => ?_, fun ρ1 H1 h ts i ev hr e hl => ?_⟩
  · cases e
    unfold rangeT at ei
    rw [List.getElem?_map] at ei
    have hi : i < n := by
      by_cases c : i < n
      · exact c
      · rw [List.getElem?_eq_none (by simp; omega)] at ei; cases ei
    rw [List.getElem?_range hi] at ei
    cases ei
    refine ⟨hi, fun v H' y => ?_⟩
    obtain ⟨rfl, rfl⟩ := y
    exact ⟨.refl, hr, .int _⟩
  · cases e
    unfold rangeT at hl
    show n ≤ i
    simpa using hl
def iRange1 (g : MA) : MI := fun τ h => match g τ h with
  | .ok [.int j] h1 => if -1000000000 ≤ j ∧ j ≤ 1000000000 then .ok (fun _ => some (rangeT 0 j.toNat)) h1 else .bad
  | _ => .bad
def iRange2 (g : MA) : MI := fun τ h => match g τ h with
  | .ok [.int i, .int j] h1 => if -1000000000 ≤ i ∧ i ≤ 1000000000 ∧ -1000000000 ≤ j ∧ j ≤ 1000000000 then .ok (fun _ => some (rangeT i (j - i).toNat)) h1 else .bad
  | _ => .bad
theorem xiRange1 {tg a : Expr} {g : MA} {p pos : Pos} (hg : Gl X "range") (hm : X.mg "range" = none) (ha : PA X [a] (TMA Y g)) (hs : starEach [a] X.env = [(false, eval a X.env)] := by rfl) : PI X tg (.Call (.Name "range" p) [a] [] pos) (TMI Y (iRange1 g)) :=
  pi_imp (pi_range1 hg hm ha hs) fun σ H R q => by
    obtain ⟨ρ, τ, h, rd, h', G, e, to⟩ := q
    unfold iRange1 at e
    split at e
    · rename_i j h1 e1
      split at e
      · rename_i hz
        cases e
        refine ⟨ρ, τ, h, _, _, G, e1, ⟨fun ρ1 H1 vs ev hr r => ?_⟩⟩
        obtain ⟨v, rfl, rv⟩ := rps_one r
        cases rv
        exact ⟨j, rfl, by omega, by omega, to ρ1 H1 _ ev hr wk_range⟩
      · cases e
    · cases e
theorem xiRange2 {tg a b : Expr} {g : MA} {p pos : Pos} (hg : Gl X "range") (hm : X.mg "range" = none) (ha : PA X [a, b] (TMA Y g)) (hs : starEach [a, b] X.env = [(false, eval a X.env), (false, eval b X.env)] := by rfl) (hs2 : starEach [b] X.env = [(false, eval b X.env)] := by rfl) : PI X tg (.Call (.Name "range" p) [a, b] [] pos) (TMI Y (iRange2 g)) :=
  pi_imp (pi_range2 hg hm ha hs hs2) fun σ H R q => by
    obtain ⟨ρ, τ, h, rd, h', G, e, to⟩ := q
    unfold iRange2 at e
    split at e
    · rename_i i j h1 e1
      split at e
      · rename_i hz
        cases e
        refine ⟨ρ, τ, h, _, _, G, e1, ⟨fun ρ1 H1 vs ev hr r => ?_⟩⟩
        obtain ⟨v, w, rfl, rv, rw'⟩ := rps_two r
        cases rv
        cases rw'
        exact ⟨i, j, rfl, ⟨by omega, by omega, by omega, by omega⟩, to ρ1 H1 _ ev hr wk_range⟩
      · cases e
    · cases e
/-- pairs with their number -/
def enumT (ts : List T) : List T := ts.mapIdx fun i t => .tup [.int (i : Nat), t]
theorem pair_new {ρ : Rh} {H : Hp} {h : VH} {p : Addr} {x y : V} {t u : T} (hr : HR Y ρ H h) (r1 : Rp Y ρ H t x) (r2 : Rp Y ρ H u y) (hp : H p = none) : Ev ρ H ρ (upd H p (.tup [x, y])) ∧ HR Y ρ (upd H p (.tup [x, y])) h ∧ Rp Y ρ (upd H p (.tup [x, y])) (.tup [t, u]) (.ref p) := by
  obtain ⟨n1, n2⟩ := newT (vs := [x, y]) hr (.cons r1 (.cons r2 .nil)) (by rw [sizeLine_eq]; exact Nat.le_of_ble_eq_true rfl) hp
  exact ⟨Ev.new hp, n1, n2⟩
theorem wk_enum {t : T} {ρ : Rh} {H : Hp} {a : Addr} (r : Rp Y ρ H t (.ref a)) : Wk Y (Ite Y.K a) (fun h => (listOf h t).map enumT) ρ H := by
  refine ⟨fun ρ1 H1 h ts i u ev hr e ei => ?_, fun ρ1 H1 h ts i ev hr e hl => ?_⟩
  · rw [Option.map_eq_some_iff] at e
    obtain ⟨us, e, rfl⟩ := e
    obtain ⟨b, vs, eb, hs, hz, rs⟩ := listOf_ok (r.ev ev) hr e
    cases eb
    unfold enumT at ei
    rw [List.getElem?_mapIdx] at ei
    cases q : us[i]? with
    | none => rw [q] at ei; cases ei
    | some z =>
      rw [q] at ei
      cases ei
      obtain ⟨w, ew, rw'⟩ := rs.get q
      refine ⟨⟨vs, w, hs, ew⟩, fun x H' y => ?_⟩
      obtain ⟨p, x', rfl, hp, rfl, hx⟩ := y
      have e2 := hx vs hs
      rw [ew] at e2
      cases e2
      exact pair_new hr (.int _) rw' hp
  · rw [Option.map_eq_some_iff] at e
    obtain ⟨us, e, rfl⟩ := e
    obtain ⟨b, vs, eb, hs, hz, rs⟩ := listOf_ok (r.ev ev) hr e
    cases eb
    refine ⟨vs, hs, ?_⟩
    rw [rs.length]
    unfold enumT at hl
    simpa using hl
def iEnumM (g : MA) : MI := fun τ h => match g τ h with
  | .ok [t] h1 => if (listOf h1 t).isSome = true then .ok (fun h => (listOf h t).map enumT) h1 else .bad
  | _ => .bad
theorem xiEnum {e : Expr} {g : MA} {p pos tpos : Pos} {elts : List Expr} {kk : Nat} (hK : X.K = Y.K) (hg : Gl X "enumerate") (hm : X.mg "enumerate" = none) (ha : PA X [e] (TMA Y g)) (hs : starEach [e] X.env = [(false, eval e X.env)] := by rfl) :
    PI X (.Tuple elts kk tpos) (.Call (.Name "enumerate" p) [e] [] pos) (TMI Y (iEnumM g)) := pi_imp (pi_enum hg hm ha hs) fun σ H R q => by
  obtain ⟨ρ, τ, h, rd, h', G, e, to⟩ := q
  unfold iEnumM at e
  split at e
  · rename_i t h1 e1
    split at e
    · rename_i hz
      cases e
      refine ⟨ρ, τ, h, _, _, G, e1, ⟨fun ρ1 H1 vs ev hr r => ?_⟩⟩
      obtain ⟨v, rfl, rv⟩ := rps_one r
      obtain ⟨ts, ets⟩ := Option.isSome_iff_exists.mp hz
      obtain ⟨b, vs, rfl, hs, hz, rs⟩ := listOf_ok rv hr ets
      rw [hK]
      exact ⟨b, vs, rfl, hs, to ρ1 H1 _ ev hr (wk_enum rv)⟩
    · cases e
  · cases e
/-- zip of two lists -/
def zipT (ts us : List T) : List T := List.zipWith (fun t u => T.tup [t, u]) ts us
theorem wk_zip {t u : T} {ρ : Rh} {H : Hp} {a b : Addr} (r1 : Rp Y ρ H t (.ref a)) (r2 : Rp Y ρ H u (.ref b)) : Wk Y (Itz Y.K a b) (fun h => match listOf h t, listOf h u with | some ts, some us => some (zipT ts us) | _, _ => none) ρ H := by
  refine ⟨fun ρ1 H1 h ts i w ev hr e ei => ?_, fun ρ1 H1 h ts i ev hr e hl => ?_⟩
  · split at e
    · rename_i xs ys ex ey
      cases e
      obtain ⟨b1, vs, eb, hs, hz, rs⟩ := listOf_ok (r1.ev ev) hr ex
      cases eb
      obtain ⟨b2, vs2, eb, hs2, hz2, rs2⟩ := listOf_ok (r2.ev ev) hr ey
      cases eb
      unfold zipT at ei
      rw [List.getElem?_zipWith] at ei
      cases q1 : xs[i]? with
      | none => rw [q1] at ei; simp at ei
      | some x =>
        cases q2 : ys[i]? with
        | none => rw [q1, q2] at ei; simp at ei
        | some y =>
          rw [q1, q2] at ei
          simp at ei
          subst ei
          obtain ⟨w1, ew1, rw1⟩ := rs.get q1
          obtain ⟨w2, ew2, rw2⟩ := rs2.get q2
          refine ⟨⟨vs, vs2, w1, w2, hs, hs2, ew1, ew2⟩, fun z H' yl => ?_⟩
          obtain ⟨p, x', y', rfl, hp, rfl, hx, hy⟩ := yl
          have e2 := hx vs hs
          rw [ew1] at e2
          cases e2
          have e3 := hy vs2 hs2
          rw [ew2] at e3
          cases e3
          exact pair_new hr rw1 rw2 hp
    · cases e
  · split at e
    · rename_i xs ys ex ey
      cases e
      obtain ⟨b1, vs, eb, hs, hz, rs⟩ := listOf_ok (r1.ev ev) hr ex
      cases eb
      obtain ⟨b2, vs2, eb, hs2, hz2, rs2⟩ := listOf_ok (r2.ev ev) hr ey
      cases eb
      refine ⟨vs, vs2, hs, hs2, ?_⟩
      rw [rs.length, rs2.length]
      unfold zipT at hl
      simp at hl
      omega
    · cases e
def iZipM (g : MA) : MI := fun τ h => match g τ h with
  | .ok [t, u] h1 => if ((listOf h1 t).isSome && (listOf h1 u).isSome) = true then .ok (fun h => match listOf h t, listOf h u with | some ts, some us => some (zipT ts us) | _, _ => none) h1 else .bad
  | _ => .bad
theorem xiZip {e e2 : Expr} {g : MA} {p pos tpos : Pos} {elts : List Expr} {kk : Nat} (hK : X.K = Y.K) (hg : Gl X "zip") (hm : X.mg "zip" = none) (ha : PA X [e, e2] (TMA Y g)) (hs : starEach [e, e2] X.env = (false, eval e X.env) :: starEach [e2] X.env := by rfl)
    (hpl : (backTo pos (starEach [e2] X.env)).any (·.1) = false := by rfl) : PI X (.Tuple elts kk tpos) (.Call (.Name "zip" p) [e, e2] [] pos) (TMI Y (iZipM g)) := pi_imp (pi_zip hg hm ha hs hpl) fun σ H R q => by
  obtain ⟨ρ, τ, h, rd, h', G, e, to⟩ := q
  unfold iZipM at e
  split at e
  · rename_i t u h1 e1
    split at e
    · rename_i hz
      cases e
      rw [Bool.and_eq_true] at hz
      refine ⟨ρ, τ, h, _, _, G, e1, ⟨fun ρ1 H1 vs ev hr r => ?_⟩⟩
      obtain ⟨v, w, rfl, rv, rw'⟩ := rps_two r
      obtain ⟨ts, ets⟩ := Option.isSome_iff_exists.mp hz.1
      obtain ⟨b, vs, rfl, hs, hz1, rs⟩ := listOf_ok rv hr ets
      obtain ⟨us, eus⟩ := Option.isSome_iff_exists.mp hz.2
      obtain ⟨b2, vs2, rfl, hs2, hz2, rs2⟩ := listOf_ok rw' hr eus
      rw [hK]
      exact ⟨b, b2, vs, vs2, rfl, hs, hs2, to ρ1 H1 _ ev hr (wk_zip rv rw')⟩
    · cases e
  · cases e
/-! ### starred arguments and items -/
def aStar (f : ME) (g : MA) : MA := fun τ h => match f τ h with
  | .ok t h1 => (match seqOf h1 t with
    | some ts => (match g τ h1 with
      | .ok us h2 => .ok (ts ++ us) h2
      | .bad => .bad)
    | none => .bad)
  | .bad => .bad
theorem xaStar {e : Expr} {es : List Expr} {p : Pos} {f : ME} {g : MA} (hK : X.K = Y.K) (ha : PE X e (TM Y f)) (hr : PA X es (TMA Y g)) (hs : starEach (.Starred e p :: es) X.env = (true, eval e X.env) :: starEach es X.env := by rfl) : PA X (.Starred e p :: es) (TMA Y (aStar f g)) :=
  pa_imp (StX.pa_star ha hr hs) fun σ H Q q => by
    obtain ⟨ρ, τ, h, u, h', G, e, to⟩ := q
    unfold aStar at e
    cases e1 : f τ h with
    | bad => simp only [e1] at e; cases e
    | ok t h1 =>
      simp only [e1] at e
      refine ⟨ρ, τ, h, t, h1, G, e1, ⟨fun ρ1 H1 v ev hr1 r => ?_⟩⟩
      cases e2 : seqOf h1 t with
      | none => simp only [e2] at e; cases e
      | some ts =>
        simp only [e2] at e
        obtain ⟨a, vs, rfl, hs, hz, rs⟩ := seqOf_ok r hr1 e2
        cases e3 : g τ h1 with
        | bad => simp only [e3] at e; cases e
        | ok us h2 =>
          simp only [e3] at e
          cases e
          rw [hK]
          exact ⟨a, vs, rfl, hs.symm, ρ1, τ, h1, _, _, G.ev ev hr1, e3, ⟨fun ρ2 H2 ws ev2 hr2 rs2 => to.to ρ2 H2 _ (ev.trans ev2) hr2 ((rs.ev ev2.toEvR).append rs2)⟩⟩
/-! ### xs[::-1] of a list -/
def eRev (f : ME) : ME := fun τ h => match f τ h with
  | .ok t h1 => (match listOf h1 t with
    | some ts => .ok (.lst ts.reverse) h1
    | none => .bad)
  | .bad => .bad
theorem xRev {e : Expr} {f : ME} {k : Nat} {p1 p2 p3 pos : Pos} (hK : X.K = Y.K) (he : PE X e (TM Y f)) : PE X (.Subscript e (.Slice none none (some (.UnaryOp .USub (.Constant (.int 1) k p1) p2)) p3) pos) (TM Y (eRev f)) := pe_imp (pe_revL he) fun σ H Q q => by
  obtain ⟨ρ, τ, h, u, h', G, e, to⟩ := q
  unfold eRev at e
  cases e1 : f τ h with
  | bad => simp only [e1] at e; cases e
  | ok t h1 =>
    simp only [e1] at e
    split at e
    · rename_i ts ets
      cases e
      refine ⟨ρ, τ, h, t, _, G, e1, ⟨fun ρ1 H1 v ev hr1 r => ?_⟩⟩
      obtain ⟨a, vs, rfl, hs, hz, rs⟩ := listOf_ok r hr1 ets
      rw [hK]
      refine ⟨a, vs, rfl, hs, fun p hp => ?_⟩
      obtain ⟨n1, n2⟩ := newL' hr1 rs.reverse (by rw [List.length_reverse]; exact hz) hp
      exact to.to ρ1 _ _ (ev.trans (Ev.new hp)) n1 n2
    · cases e
/-! ### three names at once -/
def sPar3 (i j l : Nat) (g : MA) : MS := fun τ h => match g τ h with
  | .ok [t, u, w] h1 => .nx (((τ.set i (some t)).set j (some u)).set l (some w)) h1
  | _ => .bad
theorem xsPar3 {i j l : Nat} {x y z : Str} {a b c : Expr} {g : MA} {px py pz pt pos : Pos} {kt k2 pt2} (hc : X.calm = true) (hN : X.N.Nodup) (hi : X.N[i]? = some x) (hj : X.N[j]? = some y) (hl : X.N[l]? = some z) (hij : i ≠ j) (hil : i ≠ l) (hjl : j ≠ l)
    (hx : X.env.scope.names.lookup x = some .local) (hy : X.env.scope.names.lookup y = some .local) (hz : X.env.scope.names.lookup z = some .local) (ha : PA X [a, b, c] (TMA Y g))
    (hw : swappedStores [.Tuple [.Name x px, .Name y py, .Name z pz] kt pt] (.Tuple [a, b, c] k2 pt2) X.env = pure (some [x, y, z]))
    (hs : swapsWithSole [.Tuple [.Name x px, .Name y py, .Name z pz] kt pt] (.Tuple [a, b, c] k2 pt2) pos.line X.env = pure false := by rfl) :
    PS X (.Assign [.Tuple [.Name x px, .Name y py, .Name z pz] kt pt] (.Tuple [a, b, c] k2 pt2) pos) (TMS Y (sPar3 i j l g)) := ps_imp (ps_par3 hc hN hi hj hl hij hil hjl hx hy hz ha hw hs) fun D σ H q => by
  obtain ⟨ρ, τ, h, G, to⟩ := q
  unfold sPar3 at to
  split at to
  · rename_i t u w h1 e1
    refine ⟨ρ, τ, h, [t, u, w], h1, G, e1, ⟨fun ρ1 H1 vs ev hr r => ?_⟩⟩
    cases r with
    | cons r1 r2 =>
      cases r2 with
      | cons r2 r3 =>
        cases r3 with
        | cons r3 r4 =>
          cases r4
          exact ⟨_, _, _, rfl, to ρ1 H1 _ ev hr ((((G.sl.ev ev.toEvR).set i r1).set j r2).set l r3)⟩
  · exact to.elim
end
end TL

set_option Elab.async false
set_option linter.all false
set_option maxRecDepth 100000
set_option maxHeartbeats 4000000
namespace TL
open PySem PySem.Spec L2
section
variable {X : Cx} {Y : Wd}
/-! ### methods of built-in types -/
/-- the receiver is of the built-in type ty -/
def MT (Y : Wd) (ty : String) (r : V → List V → Hp → VK → Prop) (b : T → List T → VH → Res T) : Prop := ∀ ρ0 H0 h0 ρ H o ts vo vs h t h' Q, Rp Y ρ0 H0 o vo → HR Y ρ0 H0 h0 → Ev ρ0 H0 ρ H → Rps Y ρ H ts vs → HR Y ρ H h → b o ts h = .ok t h' → To Y (Rp Y) ρ H t h' Q → r vo vs H Q
def tyT (h : VH) (ty : String) : T → Bool
  | .str _ => ty == "str"
  | .lst _ => ty == "list"
  | .ref n => match h[n]? with
    | some (.lst _) => ty == "list"
    | some (.dct _) => ty == "dict"
    | _ => false
  | _ => false
theorem tyT_ok {ρ : Rh} {H : Hp} {h : VH} {ty : String} {t : T} {v : V} (r : Rp Y ρ H t v) (hr : HR Y ρ H h) (e : tyT h ty t = true) : tyV Y.K ty v H := by
  cases r with
  | str hx => exact eq_of_beq e
  | lst la rs => exact .inl ⟨eq_of_beq e, _, la.sq⟩
  | @ref n a ha =>
    simp only [tyT] at e
    split at e
    · rename_i ts eo
      obtain ⟨vs, h1, hz, h2⟩ := hr.at_ n _ a eo ha
      exact .inl ⟨eq_of_beq e, vs, .inl (.inl h1)⟩
    · rename_i ts eo
      obtain ⟨vs, h1, h2⟩ := hr.at_ n _ a eo ha
      exact .inr (.inr (.inl ⟨eq_of_beq e, .inl ⟨vs, h1⟩⟩))
    · cases e
  | _ => cases e
def eMt (ty : String) (b : T → List T → VH → Res T) (f : ME) (g : MA) : ME := fun τ h => match f τ h with
  | .ok o h1 => if tyT h1 ty o = true then (match g τ h1 with
    | .ok ts h2 => b o ts h2
    | .bad => .bad) else .bad
  | .bad => .bad
theorem tm_mt {ty : String} {r : V → List V → Hp → VK → Prop} {b : T → List T → VH → Res T} (mt : MT Y ty r b) {f : ME} {g : MA} {σ : St} {H : Hp} {Q : VK} (q : TM Y (eMt ty b f g) σ H Q) : tBM Y.K ty r (TM Y f) (TMA Y g) σ H Q := by
  obtain ⟨ρ, τ, h, t, h', G, e, to⟩ := q
  unfold eMt at e
  cases e1 : f τ h with
  | bad => simp only [e1] at e; cases e
  | ok o h1 =>
    simp only [e1] at e
    split at e
    · rename_i hty
      refine ⟨ρ, τ, h, o, h1, G, e1, ⟨fun ρ1 H1 vo ev hr1 ro => ⟨tyT_ok ro hr1 hty, ?_⟩⟩⟩
      cases e2 : g τ h1 with
      | bad => simp only [e2] at e; cases e
      | ok ts h2 =>
        simp only [e2] at e
        exact ⟨ρ1, τ, h1, ts, h2, G.ev ev hr1, e2, ⟨fun ρ2 H2 vs ev2 hr2 rs => mt ρ1 H1 h1 ρ2 H2 o ts vo vs h2 t h' Q ro hr1 ev2 rs hr2 e (to.ev (ev.trans ev2))⟩⟩
    · cases e
theorem xMt {o e : Expr} {es : List Expr} {f : ME} {g : MA} {name : Str} {apos cpos : Pos} {ty id : String} {r : V → List V → Hp → VK → Prop} {b : T → List T → VH → Res T} (mt : MT Y ty r b) (hK : X.K = Y.K) (pa : PlainAttrs ty) (slot : Slot ty name id) (hty : typeOf (.builtin id) = pure (.type "method_descriptor")) (hm : MtR X id r) (ho : PE X o (TM Y f)) (ha : PA X (e :: es) (TMA Y g))
    (hbase : attributeBase o name X.env (eval o X.env) = eval o X.env := by rfl)
    (hfew : ((backTo cpos (starEach (e :: es) X.env)).all (fun x => !x.1) && (backToKw cpos (keywordEach [] X.env)).all (fun x => x.1.isSome)
      && decide ((e :: es).length + ([] : List Keyword).length + (if ([] : List Keyword).isEmpty then 0 else 1) < 30)) = true := by rfl)
    (hline : (apos.endLine == cpos.line) = true := by rfl) (hs : starEach (e :: es) X.env = (false, eval e X.env) :: starEach es X.env := by rfl) (hplain : (backTo cpos (starEach es X.env)).any (·.1) = false := by rfl) :
    PE X (.Call (.Attribute o name apos) (e :: es) [] cpos) (TM Y (eMt ty b f g)) := pe_imp (pe_bm pa slot hty hm ho ha hbase hfew hline hs hplain) fun σ H Q q => by rw [hK]; exact tm_mt mt q
theorem xMt0 {o : Expr} {f : ME} {name : Str} {apos cpos : Pos} {ty id : String} {r : V → List V → Hp → VK → Prop} {b : T → List T → VH → Res T} (mt : MT Y ty r b) (hK : X.K = Y.K) (pa : PlainAttrs ty) (slot : Slot ty name id) (hty : typeOf (.builtin id) = pure (.type "method_descriptor")) (hm : MtR X id r) (ho : PE X o (TM Y f))
    (hbase : attributeBase o name X.env (eval o X.env) = eval o X.env := by rfl) (hline : (apos.endLine == cpos.line) = true := by rfl) :
    PE X (.Call (.Attribute o name apos) [] [] cpos) (TM Y (eMt ty b f aNil)) := pe_imp (pe_bm0 pa slot hty hm ho hbase hline) fun σ H Q q => by
  obtain ⟨ρ, τ, h, t, h', G, e, to⟩ := tm_mt mt q
  rw [hK]
  refine ⟨ρ, τ, h, t, h', G, e, ⟨fun ρ1 H1 vo ev hr r => ?_⟩⟩
  obtain ⟨h1, ρ2, τ2, h2, ts, h3, G2, e2, to2⟩ := to.to ρ1 H1 vo ev hr r
  cases e2
  exact ⟨h1, to2.to ρ2 H1 [] .refl G2.hr .nil⟩
/-- the receiver, later -/
theorem ev_ref {ρ0 ρ : Rh} {H0 H : Hp} {n : Nat} {a : Addr} (r : Rp Y ρ0 H0 (.ref n) (.ref a)) (ev : Ev ρ0 H0 ρ H) : ρ.ix[n]? = some a := by
  cases r with
  | ref h => exact ev.toEvR.get h
/-- xs.append(y) -/
def mAppend (o : T) (ts : List T) (h : VH) : Res T := match o, ts with
  | .ref n, [y] => (match h[n]? with
    | some (.lst xs) => if xs.length < 16777216 then .ok .non (h.set n (.lst (xs ++ [y]))) else .bad
    | _ => .bad)
  | _, _ => .bad
theorem mt_append' : MT Y "list" rAppend mAppend := fun ρ0 H0 h0 ρ H o ts vo vs h t h' Q ro hr0 ev r hr e to => by
  unfold mAppend at e
  split at e
  · rename_i n y
    split at e
    · rename_i xs eo
      split at e
      · rename_i hz
        cases e
        obtain ⟨v, rfl, rv⟩ := rps_one r
        cases ro with
        | @ref _ a ha =>
          have ha' := ev.toEvR.get ha
          obtain ⟨ws, h1, hz1, rs⟩ := hr.at_ n _ a eo ha'
          have hl := rs.length
          have mem := List.mem_of_getElem? ha'
          have e1 : Ev ρ H ρ (upd H a (.lst (ws ++ [v]))) := Ev.write mem
          refine ⟨a, ws, v, rfl, rfl, h1, by rw [hl, sizeLine_eq]; exact hz, to.to ρ _ _ e1 (hr.write ha' ⟨_, upd_same, ?_, (rs.snoc rv).ev e1.toEvR⟩) .non⟩
          rw [List.length_append, hl, sizeLine_eq]
          simp; omega
      · cases e
    · cases e
  · cases e
/-- xs.pop(i) -/
def mPopAt (o : T) (ts : List T) (h : VH) : Res T := match o, ts with
  | .ref n, [.int i] => (match h[n]? with
    | some (.lst xs) => if -1000000000 ≤ i ∧ i ≤ 1000000000 then (match seqIndex? i xs.length with
      | some k => (match xs[k]? with
        | some y => .ok y (h.set n (.lst (xs.eraseIdx k)))
        | none => .bad)
      | none => .bad) else .bad
    | _ => .bad)
  | _, _ => .bad
theorem Rps.eraseIdx {ρ : Rh} {H : Hp} : ∀ {ts : List T} {vs : List V} (i : Nat), Rps Y ρ H ts vs → Rps Y ρ H (ts.eraseIdx i) (vs.eraseIdx i)
  | _, _, _, .nil => by simp; exact .nil
  | _, _, 0, .cons _ b => b
  | _, _, i + 1, .cons a b => .cons a (Rps.eraseIdx i b)
theorem mt_popAt' : MT Y "list" rPopAt mPopAt := fun ρ0 H0 h0 ρ H o ts vo vs h t h' Q ro hr0 ev r hr e to => by
  unfold mPopAt at e
  split at e
  · rename_i n i
    split at e
    · rename_i xs eo
      split at e
      · rename_i hz
        split at e
        · rename_i k ek
          split at e
          · rename_i y ey
            cases e
            obtain ⟨v, rfl, rv⟩ := rps_one r
            cases rv
            cases ro with
            | @ref _ a ha =>
              have ha' := ev.toEvR.get ha
              obtain ⟨ws, h1, hz1, rs⟩ := hr.at_ n _ a eo ha'
              have hl := rs.length
              have mem := List.mem_of_getElem? ha'
              obtain ⟨w, ew, rw'⟩ := rs.get ey
              have e1 : Ev ρ H ρ (upd H a (.lst (ws.eraseIdx k))) := Ev.write mem
              refine ⟨a, ws, i, k, w, rfl, rfl, h1, by omega, by omega, by rw [hl]; exact ek, ew, to.to ρ _ _ e1 (hr.write ha' ⟨_, upd_same, ?_, (rs.eraseIdx k).ev e1.toEvR⟩) (rw'.ev e1.toEvR)⟩
              exact Nat.le_trans (len_erase ws k) hz1
          · cases e
        · cases e
      · cases e
    · cases e
  · cases e
/-- x.split(sep): a new list -/
theorem strs_rps {ρ : Rh} {H : Hp} : ∀ {xs : List Str}, (∀ x ∈ xs, x.length ≤ 1000000) → Rps Y ρ H (xs.map T.str) (xs.map V.str)
  | [], _ => .nil
  | x :: xs, h => .cons (.str (h x List.mem_cons_self)) (strs_rps fun y hy => h y (List.mem_cons_of_mem _ hy))
def strsOf : List T → Option (List Str)
  | [] => some []
  | .str i :: r => (strsOf r).map (i :: ·)
  | _ => none
theorem strsOf_ok {ρ : Rh} {H : Hp} : ∀ {ts : List T} {vs : List V} {ns : List Str}, Rps Y ρ H ts vs → strsOf ts = some ns → vs = ns.map V.str
  | [], _, ns, r, e => by cases r; cases e; rfl
  | t :: ts, _, ns, r, e => by
    cases r with
    | cons a b =>
      cases t with
      | str i =>
        simp only [strsOf, Option.map_eq_some_iff] at e
        obtain ⟨ms, e1, rfl⟩ := e
        cases a
        rw [strsOf_ok b e1]; rfl
      | _ => cases e
def rSplit : V → List V → Hp → VK → Prop := fun x xs H Q => ∃ a b, x = .str a ∧ xs = [.str b] ∧ (b.length == 0) = false ∧ a.length + 2 ≤ sizeLine ∧ rNewStrs (Txt.split a b) H Q
def shortAll (xs : List Str) : Bool := xs.all fun x => decide (x.length ≤ 1000000)
def mSplit (o : T) (ts : List T) (h : VH) : Res T := match o, ts with
  | .str a, [.str b] => if ((b.length == 0) = false ∧ (Txt.split a b).length ≤ 16777216) ∧ shortAll (Txt.split a b) = true then .ok (.lst ((Txt.split a b).map T.str)) h else .bad
  | _, _ => .bad
theorem mt_split' : MT Y "str" rSplit mSplit := fun ρ0 H0 h0 ρ H o ts vo vs h t h' Q ro hr0 ev r hr e to => by
  unfold mSplit at e
  split at e
  · rename_i a b
    split at e
    · rename_i hz
      cases e
      obtain ⟨v, rfl, rv⟩ := rps_one r
      cases rv
      cases ro with
      | str hx =>
        refine ⟨a, b, rfl, rfl, hz.1.1, by rw [sizeLine_eq]; omega, fun p hp => ?_⟩
        obtain ⟨n1, n2⟩ := newL' hr (strs_rps fun x hx => of_decide_eq_true (List.all_eq_true.mp hz.2 x hx)) (by rw [List.length_map, sizeLine_eq]; exact hz.1.2) hp
        exact to.to ρ _ _ (Ev.new hp) n1 n2
    · cases e
  · cases e
/-- sep.join(texts) -/
def rJoin (K : PySem.W.Frag) : V → List V → Hp → VK → Prop := fun x xs H Q => ∃ a p, ∃ ys : List Str, x = .str a ∧ xs = [.ref p] ∧ (SqL K H p (ys.map V.str) ∨ SqT K H p (ys.map V.str)) ∧
    (ys.map (·.length)).sum + ys.length * a.length ≤ 16777216 ∧ Q (.str (Txt.join a ys)) H
def mJoin (o : T) (ts : List T) (h : VH) : Res T := match o, ts with
  | .str a, [t] => (match seqOf h t with
    | some us => (match strsOf us with
      | some ys => if (ys.map (·.length)).sum + ys.length * a.length ≤ 1000000 then .ok (.str (Txt.join a ys)) h else .bad
      | none => .bad)
    | none => .bad)
  | _, _ => .bad
theorem mt_join' : MT Y "str" (rJoin Y.K) mJoin := fun ρ0 H0 h0 ρ H o ts vo vs h t h' Q ro hr0 ev r hr e to => by
  unfold mJoin at e
  split at e
  · rename_i a t
    split at e
    · rename_i us e1
      split at e
      · rename_i ys e2
        split at e
        · rename_i hz
          cases e
          obtain ⟨v, rfl, rv⟩ := rps_one r
          obtain ⟨p, ws, rfl, hs, hz1, rs⟩ := seqOf_ok rv hr e1
          rw [strsOf_ok rs e2] at hs
          cases ro with
          | str hx =>
            refine ⟨a, p, ys, rfl, rfl, hs, by omega, to.to ρ H _ .refl hr (.str ?_)⟩
            unfold Txt.join
            rw [StrLaws.glued_eq_join]
            exact Nat.le_trans (StrLaws.join_length_le a ys) hz
        · cases e
      · cases e
    · cases e
  · cases e
/-- xs[i] = v -/
def bSetL (o i t : T) (h : VH) : Res Unit := match o, i with
  | .ref n, .int k => (match h[n]? with
    | some (.lst xs) => (match ixN xs.length k with
      | some j => .ok () (h.set n (.lst (xs.set j t)))
      | none => .bad)
    | _ => .bad)
  | _, _ => .bad
theorem st_setL : ST Y rSetL bSetL := fun ρ H o i t vo vi v h h' Q ro ri rt hr e to => by
  unfold bSetL at e
  split at e
  · rename_i n k
    split at e
    · rename_i xs eo
      split at e
      · rename_i j ej
        cases e
        cases ri
        cases ro with
        | @ref _ a ha =>
          obtain ⟨ws, h1, hz1, rs⟩ := hr.at_ n _ a eo ha
          have e1 : Ev ρ H ρ (upd H a (.lst (ws.set j v))) := Ev.write (List.mem_of_getElem? ha)
          exact ⟨a, ws, k, j, rfl, rfl, h1, by rw [rs.length]; exact ej, to ρ _ e1 (hr.write ha ⟨_, upd_same, by rw [List.length_set]; exact hz1, (rs.set rt j).ev e1.toEvR⟩)⟩
      · cases e
    · cases e
  · cases e
/-! ### the module's names -/
theorem xGlob {x : Str} {v : V} {u : Value} {t : T} {pos : Pos} (hg : Gl X x) (hm : X.mg x = some u) (r : RelV v u) (rp : ∀ ρ H, Rp Y ρ H t v) (hd : (x == ("__debug__" : Str)) = false := by decide) : PE X (.Name x pos) (TM Y (eK t)) :=
  pe_imp (pe_glob hg hm r hd) fun σ H Q q => tm_k rp σ H Q q
/-! ### attributes -/
def getI (h : VH) : T → Option (Nat × List T)
  | .obj c fs => some (c, fs)
  | .ref n => match h[n]? with
    | some (.ins c fs) => some (c, fs)
    | _ => none
  | _ => none
theorem getI_ok {ρ : Rh} {H : Hp} {h : VH} {t : T} {v : V} {c : Nat} {fs : List T} (r : Rp Y ρ H t v) (hr : HR Y ρ H h) (e : getI h t = some (c, fs)) : ∃ a C dx vfs, v = .ref a ∧ Y.cm c = some C ∧ H a = some (.ins C dx vfs) ∧ vfs.map (·.1) = (Y.fn c).take fs.length ∧ Rps Y ρ H fs (vfs.map (·.2)) := by
  cases r with
  | obj hc ho hh hn rs => cases e; exact ⟨_, _, _, _, rfl, hc, hh, hn, rs⟩
  | @ref n a ha =>
    simp only [getI] at e
    split at e
    · rename_i c' fs' eo
      cases e
      obtain ⟨C, dx, vfs, hc, h1, hn, rs⟩ := hr.at_ n _ a eo ha
      exact ⟨a, C, dx, vfs, rfl, hc, h1, hn, rs⟩
    · cases e
  | _ => cases e
theorem lookup_at : ∀ {vfs : List (Str × V)} {i : Nat} {f : Str} {v : V}, (vfs.map (·.1)).Nodup → (vfs.map (·.1))[i]? = some f → (vfs.map (·.2))[i]? = some v → vfs.lookup f = some v
  | [], _, _, _, _, h, _ => by simp at h
  | (g, w) :: r, 0, f, v, hn, h1, h2 => by
    simp at h1 h2
    subst h1 h2
    simp [List.lookup]
  | (g, w) :: r, i + 1, f, v, hn, h1, h2 => by
    simp at h1 h2
    rw [List.map_cons, List.nodup_cons] at hn
    have ne : (f == g) = false := by
      apply beq_false_of_ne
      intro z
      subst z
      obtain ⟨w', hw'⟩ := h1
      exact hn.1 (List.mem_map.mpr ⟨_, List.mem_of_getElem? hw', rfl⟩)
    simp only [List.lookup, ne]
    exact lookup_at hn.2 (by simpa using h1) (by simpa using h2)
end
end TL

set_option Elab.async false
set_option linter.all false
set_option maxRecDepth 100000
set_option maxHeartbeats 4000000
namespace TL
open PySem PySem.Spec L2
section
variable {X : Cx} {Y : Wd}
theorem take_nodup {α : Type} {l : List α} (h : l.Nodup) (n : Nat) : (l.take n).Nodup := h.sublist (List.take_sublist n l)
theorem take_at {α : Type} {l : List α} {n i : Nat} {x : α} (h : l[i]? = some x) (hi : i < n) : (l.take n)[i]? = some x := by
  rw [List.getElem?_take_of_lt hi]; exact h
/-- e.f, field i of class c -/
def eFld (c i : Nat) (f : ME) : ME := fun τ h => match f τ h with
  | .ok t h1 => (match getI h1 t with
    | some (c', fs) => if c' = c then (match fs[i]? with
      | some u => .ok u h1
      | none => .bad) else .bad
    | none => .bad)
  | .bad => .bad
theorem xFld {c i : Nat} {C : Addr} {e : Expr} {f : Str} {g : ME} {pos : Pos} (hK : X.K = Y.K) (hc : Y.cm c = some C) (hf : (Y.fn c)[i]? = some f) (hn : (Y.fn c).Nodup) (cl : Cls Y.K C) (na : NoAttr Y.K C f) (he : PE X e (TM Y g)) (hb : attributeBase e f X.env (eval e X.env) = eval e X.env := by rfl) :
    PE X (.Attribute e f pos) (TM Y (eFld c i g)) := pe_imp (pe_fld he hb) fun σ H Q q => by
  obtain ⟨ρ, τ, h, t, h', G, e, to⟩ := q
  unfold eFld at e
  cases e1 : g τ h with
  | bad => simp only [e1] at e; cases e
  | ok o h1 =>
    simp only [e1] at e
    split at e
    · rename_i c' fs eo
      split at e
      · rename_i ec
        subst ec
        split at e
        · rename_i u eu
          cases e
          refine ⟨ρ, τ, h, o, _, G, e1, ⟨fun ρ1 H1 v ev hr r => ?_⟩⟩
          obtain ⟨a, C', dx, vfs, rfl, hc', ha, hm, rs⟩ := getI_ok r hr eo
          rw [hc] at hc'
          cases hc'
          obtain ⟨w, ew, rw'⟩ := rs.get eu
          have hi : i < fs.length := (List.getElem?_eq_some_iff.mp eu).1
          rw [hK]
          exact ⟨a, C, dx, vfs, w, rfl, ha, cl, na, lookup_at (by rw [hm]; exact take_nodup hn _) (by rw [hm]; exact take_at hf hi) ew, to.to ρ1 H1 _ ev hr rw'⟩
        · cases e
      · cases e
    · cases e
/-! ### o.f = v -/
def gFldR (K : PySem.W.Frag) (ta : TE) (f : Str) : TG := fun v σ H Q => ta σ H fun x H2 => ∃ a C dx fs, x = .ref a ∧ H2 a = some (.ins C dx fs) ∧ Cls K C ∧ NoAttr K C f ∧ fs.length < 1000 ∧ Q σ (upd H2 a (.ins C dx (putF f v fs)))
theorem pg_fldR {o : Expr} {f : Str} {ta : TE} {pos : Pos} (ha : PE X o ta) : PG X (.Attribute o f pos) (gFldR X.K ta f) := by
  refine ⟨fun pins s σ H v u Q I r h => ?_⟩
  refine PySem.W.kas_attr (thn (ha.run pins s σ H _ I h) fun ov s2 ⟨x, H2, I2, rx, a, C, dx, fs, ex, ea, c, n, l, q2⟩ => ?_)
  subst ex
  obtain rfl : ov = Value.ref a := rx
  exact setattr_ok I2 ea c n l r fun s3 I3 => ⟨σ, _, I3, q2⟩
theorem putF_new : ∀ {vfs : List (Str × V)} {f : Str} {v : V}, f ∉ vfs.map (·.1) → putF f v vfs = vfs ++ [(f, v)]
  | [], f, v, _ => rfl
  | (g, w) :: r, f, v, h => by
    simp only [List.map_cons, List.mem_cons, not_or] at h
    unfold putF
    rw [if_neg (fun z => h.1 z.symm), putF_new h.2]
    rfl
theorem putF_old : ∀ {vfs : List (Str × V)} {i : Nat} {f : Str} {v : V}, (vfs.map (·.1)).Nodup → (vfs.map (·.1))[i]? = some f → (putF f v vfs).map (·.1) = vfs.map (·.1) ∧ (putF f v vfs).map (·.2) = (vfs.map (·.2)).set i v
  | [], _, _, _, _, h => by simp at h
  | (g, w) :: r, 0, f, v, hn, h1 => by
    simp at h1
    subst h1
    unfold putF
    simp
  | (g, w) :: r, i + 1, f, v, hn, h1 => by
    simp at h1
    rw [List.map_cons, List.nodup_cons] at hn
    have ne : ¬ f = g := fun z => by
      subst z
      obtain ⟨w', hw'⟩ := h1
      exact hn.1 (List.mem_map.mpr ⟨_, List.mem_of_getElem? hw', rfl⟩)
    unfold putF
    rw [if_neg (fun z => ne z.symm)]
    obtain ⟨q1, q2⟩ := putF_old (v := v) hn.2 (by simpa using h1)
    simp [q1, q2]
def mgFld (c i : Nat) (f : ME) : MG := fun t τ h => match f τ h with
  | .ok (.ref n) h1 => (match h1[n]? with
    | some (.ins c' fs) => if c' = c ∧ i ≤ fs.length then .ok τ (h1.set n (.ins c (if i < fs.length then fs.set i t else fs ++ [t]))) else .bad
    | _ => .bad)
  | _ => .bad
theorem getI_of_take {α : Type} {l : List α} {n : Nat} : (l.take n).length = min n l.length := List.length_take
theorem ins_set {ρ : Rh} {H : Hp} {n : Nat} {a : Addr} {c i : Nat} {C dx : Addr} {fs : List T} {vfs : List (Str × V)} {f : Str} {t : T} {v : V} {h : VH} (hr : HR Y ρ H h) (ha : ρ.ix[n]? = some a) (hc : Y.cm c = some C) (hf : (Y.fn c)[i]? = some f) (hn : (Y.fn c).Nodup)
    (hm : vfs.map (·.1) = (Y.fn c).take fs.length) (rs : Rps Y ρ H fs (vfs.map (·.2))) (rt : Rp Y ρ H t v) (hi : i ≤ fs.length) :
    HR Y ρ (upd H a (.ins C dx (putF f v vfs))) (h.set n (.ins c (if i < fs.length then fs.set i t else fs ++ [t]))) := by
  have e1 : Ev ρ H ρ (upd H a (.ins C dx (putF f v vfs))) := Ev.write (List.mem_of_getElem? ha)
  have hl : vfs.length = fs.length := by have := rs.length; simpa using this
  have hlen : ((Y.fn c).take fs.length).length = fs.length := by rw [← hm, List.length_map, hl]
  refine hr.write ha ?_
  by_cases q : i < fs.length
  · rw [if_pos q]
    obtain ⟨q1, q2⟩ := putF_old (v := v) (vfs := vfs) (i := i) (f := f) (by rw [hm]; exact take_nodup hn _) (by rw [hm]; exact take_at hf q)
    refine ⟨C, dx, _, hc, upd_same, ?_, ?_⟩
    · rw [q1, hm, List.length_set]
    · rw [q2]
      exact (rs.set rt i).ev e1.toEvR
  · rw [if_neg q]
    have ei : i = fs.length := by omega
    have nin : f ∉ vfs.map (·.1) := by
      rw [hm]
      intro z
      obtain ⟨j, hj, ej⟩ := List.getElem_of_mem z
      rw [List.getElem_take] at ej
      have hj2 : j < fs.length := by rw [hlen] at hj; exact hj
      obtain ⟨hi3, e3⟩ := List.getElem?_eq_some_iff.mp hf
      have := (List.getElem_inj hn).mp (ej.trans e3.symm)
      omega
    refine ⟨C, dx, _, hc, upd_same, ?_, ?_⟩
    · rw [putF_new nin, List.map_append, hm, List.length_append]
      simp only [List.map_cons, List.map_nil, List.length_singleton]
      rw [List.take_succ, ← ei, hf]
      rfl
    · have z := (rs.snoc rt).ev e1.toEvR
      rw [putF_new nin] at z ⊢
      rw [List.map_append]
      exact z
theorem xgFld {c i : Nat} {C : Addr} {o : Expr} {f : Str} {g : ME} {pos : Pos} (hK : X.K = Y.K) (hc : Y.cm c = some C) (hf : (Y.fn c)[i]? = some f) (hn : (Y.fn c).Nodup) (hz : (Y.fn c).length < 1000) (cl : Cls Y.K C) (na : NoAttr Y.K C f) (ho : PE X o (TM Y g)) : PG X (.Attribute o f pos) (TMG Y (mgFld c i g)) :=
  pg_imp (pg_fldR ho) fun v σ H Q q => by
    obtain ⟨ρ, τ, h, t, τ', h', G, r, e, to⟩ := q
    unfold mgFld at e
    split at e
    · rename_i n h1 e1
      split at e
      · rename_i c' fs eo
        split at e
        · rename_i q
          obtain ⟨rfl, hi⟩ := q
          cases e
          refine ⟨ρ, τ, h, _, h1, G, e1, ⟨fun ρ1 H1 w ev hr1 rw' => ?_⟩⟩
          cases rw' with
          | @ref _ a ha =>
            obtain ⟨C', dx, vfs, hc', hh, hm, rs⟩ := hr1.at_ n _ a eo ha
            rw [hc] at hc'
            cases hc'
            rw [hK]
            have hl : vfs.length = fs.length := by have := rs.length; simpa using this
            have hlen : fs.length ≤ (Y.fn c').length := by
              have := congrArg List.length hm
              rw [List.length_map, List.length_take] at this
              omega
            have hw := ins_set (dx := dx) (i := i) hr1 ha hc hf hn hm rs (r.ev ev.toEvR) hi
            have ev1 : Ev ρ1 H1 ρ1 (upd H1 a (.ins C dx (putF f v vfs))) := Ev.write (List.mem_of_getElem? ha)
            exact ⟨a, C, dx, vfs, rfl, hh, cl, na, by omega, to ρ1 _ σ (ev.trans ev1) hw (G.sl.ev (ev.trans ev1).toEvR)⟩
        · cases e
      · cases e
    · cases e
/-- o.f = v, alone -/
theorem xsFld {c i : Nat} {C : Addr} {o e : Expr} {f : Str} {g m : ME} {pos pos' : Pos} (hK : X.K = Y.K) (hc : Y.cm c = some C) (hf : (Y.fn c)[i]? = some f) (hn : (Y.fn c).Nodup) (hz : (Y.fn c).length < 1000) (cl : Cls Y.K C) (na : NoAttr Y.K C f) (ho : PE X o (TM Y g)) (he : PE X e (TM Y m))
    (hs : swapsWithSole [.Attribute o f pos'] e pos.line X.env = pure false := by rfl) (hw : swappedStores [.Attribute o f pos'] e X.env = pure none := by rfl)
    (h1 : (assignEach [.Attribute o f pos'] X.env).map (·.2) = [assign (.Attribute o f pos') X.env] := by rfl) : PS X (.Assign [.Attribute o f pos'] e pos) (TMS Y (sAsg m (mgFld c i g))) := xsAsg he (xgFld hK hc hf hn hz cl na ho) hs hw h1
/-! ### a new instance -/
def rMake (C : Addr) (sp : Sp) (E : XK) : List V → Hp → VK → Prop := fun vs H1 Q => ∀ x dx, H1 x = none → H1 dx = none → dx ≠ x → sp (V.ref x :: (vs ++ [])) (upd (upd H1 dx (HO.own x)) x (HO.ins C dx [])) (fun v H2 => v = V.non ∧ Q (V.ref x) H2) E
def makeM (c : Nat) (m : List T → VH → Res T) : List T → VH → Res T := fun ts h => match m (.ref h.length :: ts) (h ++ [.ins c []]) with
  | .ok .non h' => .ok (.ref h.length) h'
  | _ => .bad
theorem ct_make {c : Nat} {C : Addr} {m : List T → VH → Res T} {E : XK} (hc : Y.cm c = some C) : CT Y (rMake C (spM Y m) E) (makeM c m) := fun ρ H ts vs h t h' Q r hr e to => by
  unfold makeM at e
  split at e
  · rename_i h1 e1
    cases e
    intro x dx hx hdx hne
    rw [List.append_nil]
    have evd : Ev ρ H ρ (upd H dx (.own x)) := Ev.new hdx
    have hr1 : HR Y ρ (upd H dx (.own x)) h := hr.new hdx
    have hx1 : (upd H dx (.own x)) x = none := by rw [upd_ne (fun z => hne z.symm)]; exact hx
    have evx : Ev ρ (upd H dx (.own x)) (ρ.push x) (upd (upd H dx (.own x)) x (.ins C dx [])) := Ev.newρ hx1
    have hr2 : HR Y (ρ.push x) (upd (upd H dx (.own x)) x (.ins C dx [])) (h ++ [.ins c []]) := hr1.push hx1 ⟨C, dx, [], hc, upd_same, by simp, .nil⟩
    have ev2 := evd.trans evx
    have hix : (ρ.push x).ix[h.length]? = some x := by
      show (ρ.ix ++ [x])[h.length]? = _
      rw [List.getElem?_append_right (by rw [hr.len]; exact Nat.le_refl _), hr.len]
      simp
    refine ⟨ρ.push x, _, _, _, _, .cons (.ref hix) (r.ev ev2.toEvR), hr2, e1, ⟨fun ρ3 H3 v ev3 hr3 r3 => ?_⟩⟩
    cases r3
    exact ⟨rfl, to.to ρ3 H3 _ (ev2.trans ev3) hr3 (.ref (ev3.toEvR.get hix))⟩
  · cases e
/-! ### what a call leaves behind is cut off -/
def VO.lowR (n : Nat) : VO → Bool
  | .lst ts => lowRs n ts
  | .ins _ fs => lowRs n fs
  | .dct kvs => lowRs n (kvs.map (·.1)) && lowRs n (kvs.map (·.2))
theorem OR.cut {ρ ρ' : Rh} {H : Hp} (s : Sub ρ ρ') {a : Addr} {o : VO} (r : OR Y ρ' H a o) (q : o.lowR ρ.ix.length = true) : OR Y ρ H a o := by
  cases o with
  | lst ts => obtain ⟨vs, h1, hz, h2⟩ := r; exact ⟨vs, h1, hz, h2.down s q⟩
  | ins c fs => obtain ⟨C, dx, vfs, hc, h1, hn, h2⟩ := r; exact ⟨C, dx, vfs, hc, h1, hn, h2.down s q⟩
  | dct kvs =>
    simp only [VO.lowR, Bool.and_eq_true] at q
    obtain ⟨vk, h1, h2, h3⟩ := r
    exact ⟨vk, h1, h2.down s q.1, h3.down s q.2⟩
theorem HR.cut {ρ ρ' : Rh} {H H0 : Hp} {h h' : VH} (s : Sub ρ ρ') (r : HR Y ρ' H h') (q : HR Y ρ H0 h) (e : (h'.take h.length).all (VO.lowR h.length) = true) : HR Y ρ H (h'.take h.length) := by
  obtain ⟨m, em⟩ := s.ix
  have hl : ρ'.ix.length = h'.length := r.len
  have hl0 : ρ.ix.length = h.length := q.len
  have hle : h.length ≤ h'.length := by rw [← hl, em, List.length_append, hl0]; omega
  refine ⟨by rw [List.length_take, hl0]; omega, q.nd, fun a ha => ?_, fun n o a h1 h2 => ?_⟩
  · obtain ⟨b1, b2⟩ := r.bt a (by rw [s.bn]; exact ha)
    exact ⟨b1, fun z => b2 (by rw [em]; exact List.mem_append_left _ z)⟩
  · have hn : n < ρ.ix.length := (List.getElem?_eq_some_iff.mp h2).1
    have h3 : h'[n]? = some o := by
      rw [List.getElem?_take_of_lt (by rw [← hl0]; exact hn)] at h1
      exact h1
    have h4 : ρ'.ix[n]? = some a := by
      rw [em, List.getElem?_append_left hn]
      exact h2
    exact (r.at_ n o a h3 h4).cut s (by rw [hl0]; exact List.all_eq_true.mp e o (List.mem_of_getElem? h1))
/-- a call whose new things are forgotten, but for what it hands back -/
def cutM (m : List T → VH → Res T) : List T → VH → Res T := fun ts h => match m ts h with
  | .ok t h' => if (h'.take h.length).all (VO.lowR h.length) = true then (match frz h.length h' 4 t with
    | some u => .ok u (h'.take h.length)
    | none => .bad) else .bad
  | .bad => .bad
theorem to_cut {ρ : Rh} {H : Hp} {h h' : VH} {t u : T} {Q : VK} (hr : HR Y ρ H h) (hq : (h'.take h.length).all (VO.lowR h.length) = true) (ef : frz h.length h' 4 t = some u) (to : To Y (Rp Y) ρ H u (h'.take h.length) Q) : To Y (Rp Y) ρ H t h' Q :=
  ⟨fun ρ' H' v ev hr' rv => by
    have s : Sub ρ ρ' := ⟨let ⟨m, e, _⟩ := ev.more; ⟨m, e⟩, ev.bn⟩
    have ex : Ev ρ H ρ H' := .mk' ⟨[], by simp⟩ rfl ev.keep ev.there
    exact to.to ρ H' v ex (hr'.cut s hr hq) (frz_ok s hr' 4 t v _ rv (by rw [hr.len]; exact ef))⟩
theorem ct_cut {r : List V → Hp → VK → Prop} {m : List T → VH → Res T} (ct : CT Y r m) : CT Y r (cutM m) := fun ρ H ts vs h u h1 Q rs hr e to => by
  unfold cutM at e
  split at e
  · rename_i t h' em
    split at e
    · rename_i hq
      split at e
      · rename_i u' ef
        cases e
        exact ct ρ H ts vs h t h' Q rs hr em (to_cut hr hq ef to)
      · cases e
    · cases e
  · cases e
theorem spM_cut {m : List T → VH → Res T} {vs : List V} {H : Hp} {Q : VK} {E : XK} (q : spM Y (cutM m) vs H Q E) : spM Y m vs H Q E := by
  obtain ⟨ρ, ts, h, u, h1, r, hr, e, to⟩ := q
  unfold cutM at e
  split at e
  · rename_i t h' em
    split at e
    · rename_i hq
      split at e
      · rename_i u' ef
        cases e
        exact ⟨ρ, ts, _, t, h', r, hr, em, to_cut hr hq ef to⟩
      · cases e
    · cases e
  · cases e
theorem fnCut {P : Program} {w : World} {K : PySem.W.Frag} {mg : Str → Option Value} {base : Heap} {k : Nat} {f : Addr} {fd : FuncData} {ps : List Str} {m : List T → VH → Res T} (F : FnOk P w K mg base CX0 k f fd ps (spM Y m)) : FnOk P w K mg base CX0 k f fd ps (spM Y (cutM m)) :=
  F.imp fun _ _ _ _ q => spM_cut q
/-- C(e, ..): made, and cut off -/
theorem xMake {c k : Nat} {f C : Addr} {fd : FuncData} {ps : List Str} {m : List T → VH → Res T} {x : Str} {p pos : Pos} {e : Expr} {es : List Expr} {g : MA} (hc : Y.cm c = some C) (M : Mk X.K C f) (F : FnOk X.prog X.w X.K X.mg X.base CX0 k f fd ps (spM Y m)) (hr : Room (k + 1) X.A) (hg : Gl X x) (hm : X.mg x = some (.ref C)) (hb : Binds X.K fd ps [])
    (ha : PA X (e :: es) (TMA Y g)) (hdb : (x == ("__debug__" : Str)) = false := by decide) (he : starEach (e :: es) X.env = (false, eval e X.env) :: starEach es X.env := by rfl) (hpl : (backTo pos (starEach es X.env)).any (·.1) = false := by rfl) :
    PE X (.Call (.Name x p) (e :: es) [] pos) (TM Y (eCall (cutM (makeM c m)) g)) := pe_imp (pe_make M F hr hg hm hb .nil pass0 ha hdb he hpl) fun σ H Q q => tm_call (ct_cut (ct_make (E := E0) hc)) q
/-! ### isinstance -/
inductive TyC where
  | b (n : String) | o (c : Nat)
/-- the type's name, or the class -/
def tyOf (h : VH) : T → Option TyC
  | .non => some (.b "NoneType")
  | .bl _ => some (.b "bool")
  | .int _ => some (.b "int")
  | .str _ => some (.b "str")
  | .tup _ => some (.b "tuple")
  | .lst _ => some (.b "list")
  | .arg _ => none
  | .obj c _ => some (.o c)
  | .ref n => match h[n]? with
    | some (.lst _) => some (.b "list")
    | some (.ins c _) => some (.o c)
    | some (.dct _) => some (.b "dict")
    | none => none
def TyC.v (Y : Wd) : TyC → Value → Prop
  | .b n, u => u = .type n
  | .o c, u => ∃ C, Y.cm c = some C ∧ u = .ref C
def tyNames : List String := ["NoneType", "bool", "int", "str", "tuple", "list", "dict"]
def TyC.fit : TyC → Bool
  | .b n => tyNames.contains n
  | .o _ => true
/-- a class of the text, its facts -/
structure CF (K : PySem.W.Frag) (C : Addr) : Prop where
  cls : Cls K C
  at_ : PySem.W.findIn K (.ref C) "__class__" = some (some (.builtin "object.__class__"))
  sp : PySem.W.specialIn K (.builtin "object.__class__") "__get__" = some (some (.builtin "getset_descriptor.__get__"))
  tk : PySem.W.takesIn K (.builtin "object.__class__") = some true
  mro : PySem.W.mroIn K C (.type "object") = some true
def WdOk (Y : Wd) : Prop := ∀ c C, Y.cm c = some C → CF Y.K C
theorem tyOf_ok (ok : WdOk Y) {ρ : Rh} {H : Hp} {h : VH} {t : T} {v : V} {y : TyC} (r : Rp Y ρ H t v) (hr : HR Y ρ H h) (e : tyOf h t = some y) : y.fit = true ∧ ∃ u, y.v Y u ∧ TyX Y.K H v u := by
  cases r with
  | non => cases e; exact ⟨rfl, _, rfl, .base .non⟩
  | bl b => cases e; exact ⟨rfl, _, rfl, .base (.bl b)⟩
  | int i => cases e; exact ⟨rfl, _, rfl, .base (.int i)⟩
  | str hx => cases e; exact ⟨rfl, _, rfl, .base (.str _)⟩
  | lst la rs => cases e; exact ⟨rfl, _, rfl, .base (.lst la.2.2)⟩
  | arg la rs => cases e
  | tup ta rs =>
    cases e
    refine ⟨rfl, _, rfl, ?_⟩
    rcases ta.2 with ⟨_, h1 | ⟨o, h1⟩⟩ | ⟨o, its, n, h1, h2, _⟩
    · exact .base (.tup h1)
    · exact .fTuple h1
    · exact .kTuple h1 h2
  | obj hc ho hh hn rs =>
    cases e
    have f := ok _ _ hc
    exact ⟨rfl, _, ⟨_, hc, rfl⟩, .base (.ins hh f.cls f.at_ f.sp f.tk f.mro)⟩
  | @ref n a ha =>
    simp only [tyOf] at e
    cases q : h[n]? with
    | none => rw [q] at e; cases e
    | some o =>
      rw [q] at e
      have z := hr.at_ n o a q ha
      cases o with
      | lst ts => cases e; obtain ⟨vs, h1, _⟩ := z; exact ⟨rfl, _, rfl, .base (.lst h1)⟩
      | ins c fs =>
        cases e
        obtain ⟨C, dx, vfs, hc, h1, _⟩ := z
        have f := ok _ _ hc
        exact ⟨rfl, _, ⟨_, hc, rfl⟩, .base (.ins h1 f.cls f.at_ f.sp f.tk f.mro)⟩
      | dct kvs => cases e; obtain ⟨vk, h1, _⟩ := z; exact ⟨rfl, _, rfl, .base (.dK h1)⟩
/-- isinstance by type: bool is an int -/
def isiB : TyC → TyC → Bool
  | .b m, .b n => m == n || (m == "bool" && n == "int")
  | .o c, .o d => c == d
  | _, _ => false
def eIsi (y : TyC) (f : ME) : ME := fun τ h => match f τ h with
  | .ok t h1 => (match tyOf h1 t with
    | some x => .ok (.bl (isiB x y)) h1
    | none => .bad)
  | .bad => .bad
theorem xIsi {y : TyC} {e ce : Expr} {f : ME} {p pos : Pos} {cv : V} {cu : Value} (hK : X.K = Y.K) (ok : WdOk Y) (hy : y.v Y cu) (hcv : ClsV cv cu) (hi : ∀ x u, x.fit = true → x.v Y u → PySem.W.kitOne Y.K u cu = some (isiB x y)) (he : PE X e (TM Y f)) (hc : PE X ce (tC cv))
    (hg : Gl X "isinstance") (hm : X.mg "isinstance" = none) (hs2 : starEach [ce] X.env = (false, eval ce X.env) :: starEach [] X.env := by rfl)
    (hs : starEach [e, ce] X.env = (false, eval e X.env) :: starEach [ce] X.env := by rfl) (hpl : (backTo pos (starEach [ce] X.env)).any (·.1) = false := by rfl) :
    PE X (.Call (.Name "isinstance" p) [e, ce] [] pos) (TM Y (eIsi y f)) := pe_imp (pe_callB call_isi hg hm rfl (pa_cons he (pa_cons hc pa_nil hs2) hs) (by decide) (by decide) hs hpl) fun σ H Q q => by
  obtain ⟨ρ, τ, h, t, h', G, e, to⟩ := q
  unfold eIsi at e
  cases e1 : f τ h with
  | bad => simp only [e1] at e; cases e
  | ok o h1 =>
    simp only [e1] at e
    split at e
    · rename_i yo eo
      cases e
      refine ⟨ρ, τ, h, o, _, G, e1, ⟨fun ρ1 H1 v ev hr r => ?_⟩⟩
      obtain ⟨hf, u, hu, ty⟩ := tyOf_ok ok r hr eo
      refine ⟨v, cv, u, cu, _, rfl, hcv, by rw [hK]; exact ty, by rw [hK]; exact hi _ _ hf hu, to.to ρ1 H1 _ ev hr (.bl _)⟩
    · cases e
end
end TL

set_option Elab.async false
set_option linter.all false
set_option maxRecDepth 100000
set_option maxHeartbeats 4000000
namespace TL
open PySem PySem.Spec L2 PyProof.Rows
/-! ### enumerate over what the library draws from -/
/-- a place that gives g 0, .., g (n - 1), one a turn -/
structure Src (P : Program) (w : World) (it : Addr) (n : Nat) (g : Nat → V) (St : Nat → Heap → Prop) : Prop where
  draws : ∀ A : Around, A.handled = none → Draws P w A it [it] n (fun i v => RelV (g i) v) St
  solid : ∀ i h, St i h → ∃ o, h.get? it = some o ∧ ∀ v, o.data ≠ .cell v
/-- the pairs (0, g 0), (1, g 1), .. each new -/
def ItG (n : Nat) (g : Nat → V) : It where
  go i _ := i < n
  yld i H v H' := ∃ T, v = .ref T ∧ H T = none ∧ H' = upd H T (.tup [.int (i : Nat), g i])
  stop i _ := n ≤ i
/-- where such a walk stands before turn i -/
structure At (e it : Addr) (n : Nat) (St : Nat → Heap → Prop) (i : Nat) (h : Heap) : Prop where
  head : ∃ last, IsEnum h e it (i : Int) last
  tail : St i h
  two : it ≠ e
  most : i ≤ n
section
variable {P : Program} {w : World} {K : PySem.W.Frag} {e it : Addr} {n : Nat} {g : Nat → V} {St : Nat → Heap → Prop}
theorem At.born {i : Nat} {h : Heap} (S : Src P w it n g St) (a : At e it n St i h) {b : Addr} (m : b ∈ [e, it]) : ∃ o, h.get? b = some o ∧ ∀ v, o.data ≠ .cell v := by
  rcases List.mem_cons.mp m with rfl | m
  · exact let ⟨_, q⟩ := a.head; ⟨_, q, nofun⟩
  · rw [List.mem_singleton.mp m]; exact S.solid i h a.tail
/-- the pair as it comes out -/
theorem pair_ok {X : Cx} {H : Hp} {h : Heap} {T : Addr} {i : Nat} {tk : Tok} {x : V} {v : Value} (r : RelV x v) (at_ : h.get? T = some { cls := .type "tuple", data := .seq #[.int (i : Int) tk, v] }) : ObjOk X.prog X.w (upd H T (.tup [.int (i : Nat), x])) h T (.tup [.int (i : Nat), x]) :=
  ⟨(by decide : 2 ≤ sizeLine), _, .cons ⟨tk, rfl⟩ (.cons r .nil), _, at_, rfl, _, rfl⟩
theorem turn_src {es : List Expr} {j : Nat} {tp : Pos} (S : Src P w it n g St) : Turn P w K (.Tuple es j tp) (ItG n g) [e, it] e (At e it n St) := by
  have frame : ∀ i h h', At e it n St i h → (∀ b ∈ [e, it], ∀ o, h.get? b = some o → h'.get? b = some o) → At e it n St i h' := by
    rintro i h h' ⟨⟨l, q⟩, st, ne, le⟩ k
    refine ⟨⟨l, k e List.mem_cons_self _ q⟩, (S.draws ⟨none, 0, none, none, 0⟩ rfl).frame i h h' st fun b m o => k b (List.mem_cons_of_mem _ m) o, ne, le⟩
  refine ⟨List.mem_cons_self, fun i h a b m => a.born S m, frame, ?item, ?done, fun A i s Q E a h => let ⟨_, q⟩ := a.head; wpAny_pyIter_enum q h⟩
  case item =>
    rintro X rfl rfl rfl calm i pins s σ H E I own ⟨⟨l, q⟩, st, ne, le⟩ lt
    refine wpAny_pyNext_enum_itemD (S.draws _ (I.ok.hd calm)) q st lt ne.symm (by simpa using ne.symm) fun v h1 tk rv out st1 pr _ same => ⟨_, rfl, ?_⟩
    refine wpAny_letOwnedTupleGo_enum (s := { s with heap := h1, toks := tk + 1 }) out fun h2 q2 but => ?_
    have old : ∀ b ∈ [e, it], b < s.heap.objs.size := fun b m => let ⟨_, z, _⟩ := At.born (n := n) S ⟨⟨l, q⟩, st, ne, le⟩ m; Heap.lt_size z
    have lone : s.heap.objs.size ≠ e := fun z => Nat.lt_irrefl _ (z ▸ old e List.mem_cons_self)
    have J := I.turnedNew (t' := tk + 1) (ch := [e, it]) (fun b o m z => by
      rw [but.2 b fun y => m (y ▸ List.mem_cons_self)]
      exact same b o (fun y => m (y ▸ List.mem_cons_self)) (fun y => m (y ▸ List.mem_cons_of_mem _ List.mem_cons_self)) z) own (Nat.le_refl _) (pair_ok (H := H) rv ((but.2 _ lone).trans pr))
    refine ⟨.ref s.heap.objs.size, _, J, rfl, ⟨_, rfl, I.hok.fresh (Nat.le_refl _), rfl⟩, ⟨⟨v, q2⟩, ?_, ne, lt⟩, fun b m => (upd_ne (Nat.ne_of_lt (old b m))).trans (own b m).1⟩
    exact (S.draws ⟨none, 0, none, none, 0⟩ rfl).frame _ h1 h2 st1 fun b m o z => by rw [List.mem_singleton.mp m] at z ⊢; exact (but.2 it ne).trans z
  case done =>
    rintro X rfl rfl rfl calm i pins s σ H E I own ⟨⟨l, q⟩, st, ne, le⟩ ge
    obtain rfl : i = n := Nat.le_antisymm le ge
    have o := own it (List.mem_cons_of_mem _ List.mem_cons_self)
    exact wpAny_pyNext_enum_endD (S.draws _ (I.ok.hd calm)) q st fun h1 but => ⟨rfl, I.turned (t' := s.toks) (fun b ob m z => but b ob m z) o.1 o.2.1 o.2.2.2.1 o.2.2.2.2.1 o.2.2.2.2.2⟩
/-- a text's signs -/
theorem src_str (z : Str) (t : Tok) : Src P w it z.cps.size (fun i => .str ⟨#[z.cps.getD i 0]⟩) (fun i h => h.IsStrIter it (strIterType z) z t i) where
  solid := fun i h st => let ⟨o, q, _, d⟩ := st; ⟨o, q, fun v y => by rw [d] at y; cases y⟩
  draws := fun A hn => by
    have D : Draws P w A it [it] z.cps.size (fun i v => ∃ c u, z.cps[i]? = some c ∧ v = .str ⟨#[c]⟩ u) (fun i h => h.IsStrIter it (strIterType z) z t i) := by
      unfold strIterType
      cases z.cps.all (· < 128)
      · exact Draws.strWide hn it z t
      · exact Draws.strAscii hn it z t
    refine ⟨D.live, D.frame, fun i s Q E lt st k => D.item i s Q E lt st fun x h1 tk p => k x h1 tk ?_, D.done⟩
    obtain ⟨c, u, hc, rfl⟩ := p
    have : z.cps.getD i 0 = c := by rw [Array.getD_eq_getD_getElem?, hc]; rfl
    rw [this]
    exact ⟨u, rfl⟩
end
section
variable {X : Cx} {Y : Wd}
abbrev SignsG (z : Str) : It := ItG z.cps.size fun i => .str ⟨#[z.cps.getD i 0]⟩
def iEnumS (ta : TA) : TI := fun σ H R => ta σ H fun vs H1 => ∃ z, vs = [.str z] ∧ R (SignsG z) H1
theorem pi_enumS {e : Expr} {ta : TA} {p pos tpos : Pos} {es : List Expr} {j : Nat} (hg : Gl X "enumerate") (hm : X.mg "enumerate" = none) (ha : PA X [e] ta) (hs : starEach [e] X.env = [(false, eval e X.env)] := by rfl) :
    PI X (.Tuple es j tpos) (.Call (.Name "enumerate" p) [e] [] pos) (iEnumS ta) := by
  constructor
  intro pins s σ H R I h
  have arg := ha.run pos pins s σ H _ I h
  refine Call_ (ld_blt I hg hm boot_enumerate (PyProof.Rows.callWith_type1 (thn arg ?_) hs rfl))
  rintro us s1 ⟨_, H1, I1, r, z, rfl, q⟩
  match us, r with
  | [_], .cons ⟨t, rfl⟩ .nil =>
    refine call_enumerate_str fun h1 he hit _ more => wpAny_pyIter_enum he ⟨_, [s1.heap.objs.size + 1, s1.heap.objs.size], _, _, H1, rfl, I1.kept (t' := s1.toks) more, turn_src (src_str z t), ⟨⟨.none, he⟩, hit, (Nat.succ_ne_self _).symm, Nat.zero_le _⟩, fun b m => ?_, q⟩
    have young : s1.heap.objs.size ≤ b := by
      rcases List.mem_cons.mp m with y | y
      · exact y ▸ Nat.le_succ _
      · exact Nat.le_of_eq (List.mem_singleton.mp y).symm
    exact I1.fpOk young (I1.hok.fresh young)
def iEnumSM (g : MA) : MI := fun τ h => match g τ h with
  | .ok [.str z] h1 => .ok (fun _ => some (enumT (signsT z))) h1
  | _ => .bad
theorem wk_enumS {z : Str} {ρ : Rh} {H : Hp} : Wk Y (SignsG z) (fun _ => some (enumT (signsT z))) ρ H := by
  have len : (enumT (signsT z)).length = z.cps.size := by simp [enumT, signsT]
  constructor
  · rintro ρ1 H1 h ts i u ev hr ⟨⟩ ei
    have lt : i < z.cps.size := by rw [← len]; exact (List.getElem?_eq_some_iff.mp ei).1
    have this : u = .tup [.int (i : Nat), .str ⟨#[z.cps.getD i 0]⟩] := by
      simp [enumT, signsT, lt] at ei
      rw [← ei]
      simp [lt]
    subst this
    refine ⟨lt, fun x H' y => ?_⟩
    obtain ⟨T', rfl, fresh, rfl⟩ := y
    exact pair_new hr (.int _) (.str (by show (#[_] : Array Nat).size ≤ _; simp)) fresh
  · rintro ρ1 H1 h ts i ev hr ⟨⟩ hl
    show z.cps.size ≤ i
    rw [← len]
    exact hl
theorem xiEnumS {e : Expr} {g : MA} {p pos tpos : Pos} {elts : List Expr} {kk : Nat} (hg : Gl X "enumerate") (hm : X.mg "enumerate" = none) (ha : PA X [e] (TMA Y g)) (hs : starEach [e] X.env = [(false, eval e X.env)] := by rfl) :
    PI X (.Tuple elts kk tpos) (.Call (.Name "enumerate" p) [e] [] pos) (TMI Y (iEnumSM g)) := pi_imp (pi_enumS hg hm ha hs) fun σ H R q => by
  obtain ⟨ρ, τ, h, rd, h', G, e, to⟩ := q
  unfold iEnumSM at e
  split at e
  · rename_i z h1 e1
    cases e
    refine ⟨ρ, τ, h, _, _, G, e1, ⟨fun ρ1 H1 vs ev hr r => ?_⟩⟩
    obtain ⟨v, rfl, rv⟩ := rps_one r
    cases rv
    exact ⟨_, rfl, to ρ1 H1 _ ev hr wk_enumS⟩
  · cases e
/-! ### dicts of the module, text keys -/
/-- the dict at d -/
structure KD (Y : Wd) (w : World) (d : Addr) (kvs : List (Str × T)) : Prop where
  kd : ∃ es n, KDict Y.K w d es n ∧ es.toList.map (fun e => match e.key with | .str x _ => some x | _ => none) = kvs.map fun q => some q.1
  val : ∀ k t, kvs.lookup k = some t → ∃ u v, PySem.W.nsIn Y.K d k = some (some u) ∧ RelV v u ∧ ∀ ρ H, Rp Y ρ H t v
  miss : ∀ k, kvs.lookup k = none → PySem.W.nsIn Y.K d k = some none
def eIxK (kvs : List (Str × T)) (f : ME) : ME := fun τ h => match f τ h with
  | .ok (.str z) h1 => (match kvs.lookup z with
    | some t => .ok t h1
    | none => .bad)
  | _ => .bad
theorem xIxK {b : Expr} {x : Str} {f : ME} {pos p : Pos} {d : Addr} {kvs : List (Str × T)} (hK : X.K = Y.K) (D : KD Y X.w d kvs) (hg : Gl X x) (hm : X.mg x = some (.ref d)) (hb : PE X b (TM Y f)) (hs : PlainIx b) (hd : (x == ("__debug__" : Str)) = false := by decide) :
    PE X (.Subscript (.Name x p) b pos) (TM Y (eIxK kvs f)) := pe_imp (pe_ix ix_kdict (pe_glob hg hm (v := .ref d) rfl hd) hb hs) fun σ H Q q => by
  obtain ⟨ρ, τ, h, t, h', G, e, to⟩ := q
  unfold eIxK at e
  split at e
  · rename_i z h1 e1
    split at e
    · rename_i u eu
      cases e
      refine ⟨ρ, τ, h, _, _, G, e1, ⟨fun ρ1 H1 v ev hr r => ?_⟩⟩
      cases r
      obtain ⟨es, n, k, _⟩ := D.kd
      obtain ⟨u', v', e1, e2, e3⟩ := D.val _ _ eu
      rw [hK]
      exact ⟨d, z, v', rfl, rfl, ⟨es, n, u', k.at_, k.lit, e1, e2⟩, to.to ρ1 H1 _ ev hr (e3 _ _)⟩
    · cases e
  · cases e
def eInK (neg : Bool) (kvs : List (Str × T)) (f : ME) : ME := fun τ h => match f τ h with
  | .ok (.str z) h1 => .ok (.bl (neg != (kvs.lookup z).isSome)) h1
  | _ => .bad
theorem KD.some {d : Addr} {w : World} {kvs : List (Str × T)} (D : KD Y w d kvs) (z : Str) : ∃ r, PySem.W.nsIn Y.K d z = some r ∧ r.isSome = (kvs.lookup z).isSome := by
  cases q : kvs.lookup z with
  | none => exact ⟨_, D.miss z q, rfl⟩
  | some t =>
    obtain ⟨u', v', e1, e2, e3⟩ := D.val _ _ q
    exact ⟨_, e1, rfl⟩
theorem tm_inK {neg : Bool} {r : R2} {d : Addr} {kvs : List (Str × T)} {f : ME} {σ : St} {H : Hp} {Q : VK} (q : TM Y (eInK neg kvs f) σ H Q) (hr : ∀ z H Q, Q (.bl (neg != (kvs.lookup z).isSome)) H → r (.str z) (.ref d) H Q) : tOp r (TM Y f) (tC (.ref d)) σ H Q := by
  obtain ⟨ρ, τ, h, t, h', G, e, to⟩ := q
  unfold eInK at e
  split at e
  · rename_i z h1 e1
    cases e
    refine ⟨ρ, τ, h, _, _, G, e1, ⟨fun ρ1 H1 v ev hr1 r => ?_⟩⟩
    cases r
    exact hr _ _ _ (to.to ρ1 H1 _ ev hr1 (.bl _))
  · cases e
theorem xInK {a : Expr} {x : Str} {f : ME} {pos p : Pos} {d : Addr} {kvs : List (Str × T)} (hK : X.K = Y.K) (D : KD Y X.w d kvs) (hg : Gl X x) (hm : X.mg x = some (.ref d)) (ha : PE X a (TM Y f)) (hd : (x == ("__debug__" : Str)) = false := by decide) (hmk : behindInMarks .In (.Name x p) = false := by first | exact nomark _ | rfl) :
    PE X (.Compare a [.In] [.Name x p] pos) (TM Y (eInK false kvs f)) := by
  obtain ⟨es, n, k, _⟩ := D.kd
  refine pe_imp (pe_cmpR (op_in_kd (X := X) (d := d) (es := es) (n := n) (by rw [hK]; exact k)) ha (pe_glob hg hm (v := .ref d) rfl hd) hmk) fun σ H Q q => tm_inK (d := d) q fun z H Q q => ?_
  obtain ⟨r, e1, e2⟩ := D.some z
  exact ⟨z, r, rfl, rfl, by rw [hK]; exact e1, by rw [Bool.false_bne] at q; rw [e2]; exact q⟩
theorem xNinK {a : Expr} {x : Str} {f : ME} {pos p : Pos} {d : Addr} {kvs : List (Str × T)} (hK : X.K = Y.K) (D : KD Y X.w d kvs) (hg : Gl X x) (hm : X.mg x = some (.ref d)) (ha : PE X a (TM Y f)) (hd : (x == ("__debug__" : Str)) = false := by decide) (hmk : behindInMarks .NotIn (.Name x p) = false := by first | exact nomark _ | rfl) :
    PE X (.Compare a [.NotIn] [.Name x p] pos) (TM Y (eInK true kvs f)) := by
  obtain ⟨es, n, k, _⟩ := D.kd
  refine pe_imp (pe_cmpR (op_notIn_kd (X := X) (d := d) (es := es) (n := n) (by rw [hK]; exact k)) ha (pe_glob hg hm (v := .ref d) rfl hd) hmk) fun σ H Q q => tm_inK (d := d) q fun z H Q q => ?_
  obtain ⟨r, e1, e2⟩ := D.some z
  exact ⟨z, r, rfl, rfl, by rw [hK]; exact e1, by rw [Bool.true_bne] at q; rw [e2]; exact q⟩
end
section
variable {X : Cx} {Y : Wd}
theorem tmb_inK {neg : Bool} {r : R2} {d : Addr} {kvs : List (Str × T)} {f : ME} {σ : St} {H : Hp} {Q : Bool → Hp → Prop} (q : TMB Y (bTest (eInK neg kvs f)) σ H Q) (hr : ∀ z H Q, Q (.bl (neg != (kvs.lookup z).isSome)) H → r (.str z) (.ref d) H Q) : tTest (tOp r (TM Y f) (tC (.ref d))) σ H Q := by
  obtain ⟨ρ, τ, h, u, h', G, e, to⟩ := q
  refine tm_inK (d := d) (Q := fun x H' => ∃ k, x = .bl k ∧ Q k H') ?_ hr
  unfold bTest at e
  split at e
  · rename_i b h1 e1
    cases e
    refine ⟨ρ, τ, h, _, _, G, e1, ⟨fun ρ1 H1 v ev hr r => ?_⟩⟩
    cases r
    exact ⟨_, rfl, to.to ρ1 H1 _ ev hr rfl⟩
  · cases e
theorem xtInK {a : Expr} {x : Str} {f : ME} {pos p : Pos} {d : Addr} {kvs : List (Str × T)} (hK : X.K = Y.K) (D : KD Y X.w d kvs) (hg : Gl X x) (hm : X.mg x = some (.ref d)) (ha : PE X a (TM Y f)) (hd : (x == ("__debug__" : Str)) = false := by decide) (hmk : behindInMarks .In (.Name x p) = false := by first | exact nomark _ | rfl) :
    PT X (.Compare a [.In] [.Name x p] pos) (TMB Y (bTest (eInK false kvs f))) := by
  obtain ⟨es, n, k, _⟩ := D.kd
  refine pt_imp (pt_cmpR (op_in_kd (X := X) (d := d) (es := es) (n := n) (by rw [hK]; exact k)) ha (pe_glob hg hm (v := .ref d) rfl hd) hmk) fun σ H Q q => tmb_inK (d := d) q fun z H Q q => ?_
  obtain ⟨r, e1, e2⟩ := D.some z
  exact ⟨z, r, rfl, rfl, by rw [hK]; exact e1, by rw [Bool.false_bne] at q; rw [e2]; exact q⟩
theorem xtNinK {a : Expr} {x : Str} {f : ME} {pos p : Pos} {d : Addr} {kvs : List (Str × T)} (hK : X.K = Y.K) (D : KD Y X.w d kvs) (hg : Gl X x) (hm : X.mg x = some (.ref d)) (ha : PE X a (TM Y f)) (hd : (x == ("__debug__" : Str)) = false := by decide) (hmk : behindInMarks .NotIn (.Name x p) = false := by first | exact nomark _ | rfl) :
    PT X (.Compare a [.NotIn] [.Name x p] pos) (TMB Y (bTest (eInK true kvs f))) := by
  obtain ⟨es, n, k, _⟩ := D.kd
  refine pt_imp (pt_cmpR (op_notIn_kd (X := X) (d := d) (es := es) (n := n) (by rw [hK]; exact k)) ha (pe_glob hg hm (v := .ref d) rfl hd) hmk) fun σ H Q q => tmb_inK (d := d) q fun z H Q q => ?_
  obtain ⟨r, e1, e2⟩ := D.some z
  exact ⟨z, r, rfl, rfl, by rw [hK]; exact e1, by rw [Bool.true_bne] at q; rw [e2]; exact q⟩
end
/-- the keys of a written dict -/
def ItkK (ks : List Str) : It := ⟨fun i _ => i < ks.length, fun i H x H' => H' = H ∧ ∃ k, ks[i]? = some k ∧ x = .str k, fun i _ => ks.length ≤ i⟩
/-- a key of text, or none -/
def keyS (e : DictEntry) : Option Str := match e.key with
  | .str x _ => some x
  | _ => none
theorem keyS_at {e : DictEntry} {x : Str} (h : keyS e = some x) : ∃ tk, e.key = .str x tk := by
  unfold keyS at h
  split at h
  · next y tk q => exact ⟨tk, by rw [q, Option.some.inj h]⟩
  · cases h
theorem turn_keysK {P : Program} {w : World} {K : PySem.W.Frag} {tg : Expr} {d it : Addr} {es : Array DictEntry} {n : Nat} {ks : List Str} (D : KDict K w d es n) (hk : es.toList.map keyS = ks.map some) :
    Turn P w K tg (ItkK ks) [it] it (fun i h => h.IsKeyIter it d i es.size n) := by
  have many : es.size = ks.length := by simpa using congrArg List.length hk
  have raw : ∀ {h : Heap}, K.In h → h.DictRaw d es n := fun kin => ⟨_, kin _ _ D.at_, ⟨rfl, rfl, rfl⟩, rfl⟩
  refine ⟨List.mem_singleton.mpr rfl, ?obj, ?keep, ?item, ?done, fun _ _ _ _ _ st q => wpAny_pyIter_keyiter st q⟩
  case obj =>
    rintro i h ⟨o, q, c, y⟩ b m
    exact ⟨o, List.mem_singleton.mp m ▸ q, fun v z => nomatch y.symm.trans z⟩
  case keep => exact fun i h h' st same => st.at (same it (List.mem_singleton.mpr rfl))
  case item =>
    rintro X rfl rfl rfl calm i pins s σ H E I own st (lt : i < ks.length)
    have o := own it (List.mem_singleton.mpr rfl)
    have lt' : i < es.size := many ▸ lt
    refine wpAny_pyNext_keys_item_raw st (raw I.kIn) lt' fun h1 st1 but => ⟨_, rfl, ?_⟩
    have J := I.turned (t' := s.toks) (fun b ob m z => (but.2 b m).trans z) o.1 o.2.1 o.2.2.2.1 o.2.2.2.2.1 o.2.2.2.2.2
    have named : keyS es[i] = some ks[i] := by
      have q : (es.toList.map keyS)[i]? = (ks.map some)[i]? := by rw [hk]
      simpa [lt, lt'] using q
    obtain ⟨tk, key⟩ := keyS_at named
    obtain ⟨oi, q, c, y⟩ := id st1
    refine go_of (s := { s with heap := h1 }) q c y (by decide) ⟨.str ks[i], H, J, ?_, ⟨rfl, ks[i], List.getElem?_eq_getElem lt, rfl⟩, st1, fun b m => (own b m).1⟩
    rw [key]
    exact ⟨tk, rfl⟩
  case done =>
    rintro X rfl rfl rfl calm i pins s σ H E I own st (ge : ks.length ≤ i)
    have o := own it (List.mem_singleton.mpr rfl)
    exact wpAny_pyNext_keys_end_raw (I.ok.hd calm) st (raw I.kIn) (many ▸ ge) fun h1 but => ⟨rfl, I.turned (t' := s.toks) (fun b ob m z => but b ob m z) o.1 o.2.1 o.2.2.2.1 o.2.2.2.2.1 o.2.2.2.2.2⟩
section
variable {X : Cx} {Y : Wd}
def iKeysK (kvs : List (Str × T)) : MI := fun _ h => .ok (fun _ => some (kvs.map fun q => T.str q.1)) h
theorem xiKeysK {tg : Expr} {x : Str} {p : Pos} {d : Addr} {kvs : List (Str × T)} (hK : X.K = Y.K) (D : KD Y X.w d kvs) (hg : Gl X x) (hm : X.mg x = some (.ref d)) (hz : kvs.all (fun q => decide (q.1.length ≤ 1000000)) = true := by decide) (hd : (x == ("__debug__" : Str)) = false := by decide) : PI X tg (.Name x p) (TMI Y (iKeysK kvs)) := by
  refine ⟨fun pins s σ H R I q => ?_⟩
  refine thn ((pe_glob hg hm (v := .ref d) rfl hd).run pins s σ H (fun v H1 => v = .ref d ∧ H1 = H) I ⟨rfl, rfl⟩) fun u s1 ⟨y, H1, I1, rx, ey, eH⟩ => ?_
  subst ey eH
  obtain rfl : u = Value.ref d := rx
  obtain ⟨es, n, k, hk⟩ := D.kd
  obtain ⟨ρ, τ, h, rd, h', G, e, to⟩ := q
  cases e
  have k' : KDict X.K X.w d es n := by rw [hK]; exact k
  have hd1 := I1.kIn _ _ k'.at_
  have hne : d ≠ s1.heap.objs.size := Nat.ne_of_lt (Heap.lt_size hd1)
  refine iter_keys k.low hd1 ⟨rfl, rfl, rfl⟩ rfl (pi_one (tk := s1.toks) I1 _ (turn_keysK (ks := kvs.map (·.1)) k' (Eq.trans (show es.toList.map keyS = _ from hk) (by rw [List.map_map]; rfl))) ⟨_, Heap.get?_push_size _ rfl, rfl, rfl⟩ (to ρ H1 _ .refl G.hr ?_))
  refine ⟨fun ρ1 H1 h ts i u ev hr e ei => ?_, fun ρ1 H1 h ts i ev hr e hl => ?_⟩
  · cases e
    rw [List.getElem?_map] at ei
    cases q : kvs[i]? with
    | none => rw [q] at ei; cases ei
    | some c =>
      rw [q] at ei
      cases ei
      refine ⟨by show i < (kvs.map (·.1)).length; rw [List.length_map]; exact (List.getElem?_eq_some_iff.mp q).1, fun x H' y => ?_⟩
      obtain ⟨rfl, k, ek, rfl⟩ := y
      rw [List.getElem?_map, q] at ek
      cases ek
      exact ⟨.refl, hr, .str (of_decide_eq_true (List.all_eq_true.mp hz c (List.mem_of_getElem? q)))⟩
  · cases e
    show (kvs.map (·.1)).length ≤ i
    simpa using hl
end
end TL

set_option Elab.async false
set_option linter.all false
set_option maxRecDepth 100000
set_option maxHeartbeats 4000000
namespace TL
open PySem PySem.Spec L2
section
variable {X : Cx} {Y : Wd}
theorem ot_eq : OT Y (rEqP Y.K fun d e => PyData.eqv d e) bEq := ot_eqG _
theorem ot_ne : OT Y (rEqP Y.K fun d e => !PyData.eqv d e) bNe := ot_eqG _
theorem ot_lt : OT Y (rO Y.K (fun d e => PySem.W.dataLt d e) fun i j => decide (i < j)) bLt := ot_ord _ _
theorem ot_le : OT Y (rO Y.K (fun d e => !PySem.W.dataLt e d) fun i j => decide (i ≤ j)) bLe := ot_ord _ _
theorem ot_gt : OT Y (rO Y.K (fun d e => PySem.W.dataLt e d) fun i j => decide (j < i)) bGt := ot_ord _ _
theorem ot_ge : OT Y (rO Y.K (fun d e => !PySem.W.dataLt d e) fun i j => decide (j ≤ i)) bGe := ot_ord _ _
theorem ot_inT : OT Y (rInA Y.K false) bIn := ot_in _
theorem ot_ninT : OT Y (rInA Y.K true) bNin := ot_in _
theorem xGInt {x : Str} {i : Int} {pos : Pos} (hg : Gl X x) (h : ∃ t, X.mg x = some (.int i t)) (hd : (x == ("__debug__" : Str)) = false := by decide) : PE X (.Name x pos) (TM Y (eK (.int i))) := by
  obtain ⟨t, h⟩ := h
  exact xGlob hg h (v := .int i) ⟨t, rfl⟩ (fun _ _ => .int i) hd
theorem xGStr {x z : Str} {pos : Pos} (hg : Gl X x) (h : ∃ t, X.mg x = some (.str z t)) (hz : z.length ≤ 1000000 := by decide) (hd : (x == ("__debug__" : Str)) = false := by decide) : PE X (.Name x pos) (TM Y (eK (.str z))) := by
  obtain ⟨t, h⟩ := h
  exact xGlob hg h (v := .str z) ⟨t, rfl⟩ (fun _ _ => .str hz) hd
/-- xs * k, a new list that may change -/
def mMul (f g : ME) : MA := fun τ h => match f τ h with
  | .ok a h1 => (match g τ h1 with
    | .ok (.int k) h2 => (match listOf h2 a with
      | some x => if x.length * k.toNat ≤ 16777216 ∧ -1000000000 ≤ k ∧ k ≤ 1000000000 then .ok (List.replicate k.toNat x).flatten h2 else .bad
      | _ => .bad)
    | _ => .bad)
  | .bad => .bad
theorem xMulF {a c : Expr} {f g : ME} {pos : Pos} (ha : PE X a (TM Y f)) (hb : PE X c (TM Y g)) : PE X (.BinOp a .Mult c pos) (TMF Y (mMul f g)) := pe_imp (pe_op op_rep ha hb) fun σ H Q q => by
  obtain ⟨ρ, τ, h, us, h', G, e, to⟩ := q
  unfold mMul at e
  cases e1 : f τ h with
  | bad => simp only [e1] at e; cases e
  | ok o h1 =>
    simp only [e1] at e
    refine ⟨ρ, τ, h, o, h1, G, e1, ⟨fun ρ1 H1 vo ev hr1 ro => ?_⟩⟩
    split at e
    · rename_i k h2 e2
      refine ⟨ρ1, τ, h1, _, h2, G.ev ev hr1, e2, ⟨fun ρ2 H2 vk ev2 hr2 rk => ?_⟩⟩
      cases rk
      split at e
      · rename_i x ex
        split at e
        · rename_i hz
          cases e
          obtain ⟨p, va, rfl, hp, hza, ra⟩ := listOf_ok' (ro.ev ev2.toEvR) hr2 ex
          have hl := hz.1
          rw [← ra.length, ← sizeLine_eq] at hl
          have ev12 := ev.trans ev2
          exact ⟨p, k, va, rfl, rfl, hp, by omega, by omega, hl, lay hr2 (ra.rep _) (by rw [rep_len, Nat.mul_comm]; exact hl) fun ρ' H' D ws ev' hr' hD => to ρ' H' D ws (ev12.trans ev') hr' (ev12.fresh hD)⟩
        · cases e
      · cases e
    · cases e
/-- xs + ys, a new list that may change -/
def mCat (f g : ME) : MA := fun τ h => match f τ h with
  | .ok a h1 => (match g τ h1 with
    | .ok b h2 => (match listOf h2 a, listOf h2 b with
      | some x, some y => if x.length + y.length ≤ 16777216 then .ok (x ++ y) h2 else .bad
      | _, _ => .bad)
    | _ => .bad)
  | .bad => .bad
theorem xCatF {a c : Expr} {f g : ME} {pos : Pos} (ha : PE X a (TM Y f)) (hb : PE X c (TM Y g)) : PE X (.BinOp a .Add c pos) (TMF Y (mCat f g)) := pe_imp (pe_op op_cat ha hb) fun σ H Q q => by
  obtain ⟨ρ, τ, h, us, h', G, e, to⟩ := q
  unfold mCat at e
  cases e1 : f τ h with
  | bad => simp only [e1] at e; cases e
  | ok o h1 =>
    simp only [e1] at e
    refine ⟨ρ, τ, h, o, h1, G, e1, ⟨fun ρ1 H1 vo ev hr1 ro => ?_⟩⟩
    cases e2 : g τ h1 with
    | bad => simp only [e2] at e; cases e
    | ok u h2 =>
      simp only [e2] at e
      refine ⟨ρ1, τ, h1, _, h2, G.ev ev hr1, e2, ⟨fun ρ2 H2 vk ev2 hr2 rk => ?_⟩⟩
      split at e
      · rename_i x y ex ey
        split at e
        · rename_i hz
          cases e
          obtain ⟨p, va, rfl, hp, hza, ra⟩ := listOf_ok' (ro.ev ev2.toEvR) hr2 ex
          obtain ⟨p2, vb, rfl, hp2, hzb, rb⟩ := listOf_ok' rk hr2 ey
          have ev12 := ev.trans ev2
          have hl : va.length + vb.length ≤ sizeLine := by rw [ra.length, rb.length, sizeLine_eq]; exact hz
          exact ⟨p, p2, va, vb, rfl, rfl, hp, hp2, hl, lay hr2 (ra.append rb) (by rw [List.length_append]; exact hl) fun ρ' H' D ws ev' hr' hD => to ρ' H' D ws (ev12.trans ev') hr' (ev12.fresh hD)⟩
        · cases e
      · cases e
/-- list(range(..)) : a new list -/
def mRange1 (g : ME) : MA := fun τ h => match g τ h with
  | .ok (.int j) h1 => if -1000000 ≤ j ∧ j ≤ 1000000 then .ok (rangeT 0 j.toNat) h1 else .bad
  | _ => .bad
end
/-- a block's scope, by one Bool -/
def blkB (N : List Str) (sc scope : Scope) (own : List (Str × Nat)) : Bool := own.all (fun p => decide (N[p.2]? = some p.1)) && scope.names.all fun y => decide (scope.names.lookup y.1 = some y.2) && match y.2 with
  | .free => decide (sc.names.lookup y.1 = some .cell) || decide (sc.names.lookup y.1 = some .free)
  | .local => own.any (fun p => decide (p.1 = y.1)) || !N.any fun x => decide (x = y.1)
  | .cell => own.any (fun p => decide (p.1 = y.1)) || !N.any fun x => decide (x = y.1)
  | _ => true
theorem own_of {N : List Str} {own : List (Str × Nat)} {x : Str} (h : (own.any (fun p => decide (p.1 = x)) || !N.any fun y => decide (y = x)) = true) : x ∈ own.map (·.1) ∨ ¬ x ∈ N := by
  rw [Bool.or_eq_true] at h
  rcases h with h | h
  · obtain ⟨p, hp, e⟩ := List.any_eq_true.mp h
    exact .inl (List.mem_map.mpr ⟨p, hp, of_decide_eq_true e⟩)
  · refine .inr fun z => ?_
    have : (N.any fun y => decide (y = x)) = true := List.any_eq_true.mpr ⟨x, z, decide_eq_true rfl⟩
    rw [this] at h
    cases h
theorem blk_of {N : List Str} {sc scope : Scope} {own : List (Str × Nat)} (hk : scope.kind = .function) (h : blkB N sc scope own = true) : BlkOk N sc scope own := by
  unfold blkB at h
  rw [Bool.and_eq_true] at h
  refine ⟨hk, fun y hy => ?_, fun p hp => of_decide_eq_true (List.all_eq_true.mp h.1 p hp), fun y hy e => ?_, fun y hy e => ?_⟩
  · have q := List.all_eq_true.mp h.2 y hy
    rw [Bool.and_eq_true] at q
    exact of_decide_eq_true q.1
  · have q := List.all_eq_true.mp h.2 y hy
    rw [Bool.and_eq_true, e] at q
    have q2 := q.2
    simp only [Bool.or_eq_true] at q2
    exact q2.elim (fun z => .inl (of_decide_eq_true z)) fun z => .inr (of_decide_eq_true z)
  · have q := List.all_eq_true.mp h.2 y hy
    rw [Bool.and_eq_true] at q
    rcases e with e | e <;> rw [e] at q <;> exact own_of q.2
theorem bt_int : bootBuiltins "int" = some (.type "int") := by decide +kernel
theorem bt_str : bootBuiltins "str" = some (.type "str") := by decide +kernel
theorem bt_bool : bootBuiltins "bool" = some (.type "bool") := by decide +kernel
theorem bt_list : bootBuiltins "list" = some (.type "list") := by decide +kernel
theorem bt_tuple : bootBuiltins "tuple" = some (.type "tuple") := by decide +kernel
theorem bt_range : bootBuiltins "range" = some (.type "range") := by decide +kernel
theorem bt_set : bootBuiltins "set" = some (.type "set") := by decide +kernel
theorem bt_zip : bootBuiltins "zip" = some (.type "zip") := by decide +kernel
theorem bt_enumerate : bootBuiltins "enumerate" = some (.type "enumerate") := by decide +kernel
theorem bt_dict : bootBuiltins "dict" = some (.type "dict") := by decide +kernel
theorem bt_len : bootBuiltins "len" = some (.builtin "len") := by decide +kernel
theorem bt_max : bootBuiltins "max" = some (.builtin "max") := by decide +kernel
theorem bt_min : bootBuiltins "min" = some (.builtin "min") := by decide +kernel
theorem bt_sum : bootBuiltins "sum" = some (.builtin "sum") := by decide +kernel
theorem bt_all : bootBuiltins "all" = some (.builtin "all") := by decide +kernel
theorem bt_any : bootBuiltins "any" = some (.builtin "any") := by decide +kernel
theorem bt_abs : bootBuiltins "abs" = some (.builtin "abs") := by decide +kernel
theorem bt_divmod : bootBuiltins "divmod" = some (.builtin "divmod") := by decide +kernel
theorem bt_sorted : bootBuiltins "sorted" = some (.builtin "sorted") := by decide +kernel
theorem bt_repr : bootBuiltins "repr" = some (.builtin "repr") := by decide +kernel
theorem bt_isinstance : bootBuiltins "isinstance" = some (.builtin "isinstance") := by decide +kernel
/-- what a module's def has -/
def fdOf (K : PySem.W.Frag) (f : Addr) : FuncData := match K.lookup f with
  | some ⟨_, _, .func fd, _⟩ => fd
  | _ => PySem.W.fnOf "" "" ⟨[], [], none, [], [], none, []⟩ [] ⟨.function, [], false, false, []⟩ .none .none .none .none none .none .none
theorem funD_at {K : PySem.W.Frag} {x qual : Str} {params : Arguments} {body : List Stmt} {scope : Scope} {dvs : List V} {kws : List (Str × V)} {f : Addr} {fd : FuncData} (F : FunD K x qual params body scope dvs kws f fd) : FunD K x qual params body scope dvs kws f (fdOf K f) := by
  obtain ⟨oc, od, dV, kV, doc, pm, an, cdv, ct, osl, e, lk, r⟩ := F.ex
  have : fdOf K f = fd := by
    unfold fdOf
    rw [lk, e]
  rw [this]
  exact F
theorem room80 {k : Nat} {A : Around} (h : Room k A) : A.units + 80 < cLine := by
  have := h.un
  omega
/-- the Bool of a written dict's values -/
def relT (K : PySem.W.Frag) : Nat → T → Value → Bool
  | _, .non, .none => true
  | _, .bl b, .bool c => b == c
  | _, .int i, .int j _ => decide (i = j)
  | _, .str x, .str y _ => decide (x = y) && decide (x.length ≤ 1000000)
  | k + 1, .tup ts, .ref a => (match K.lookup a with
    | some ⟨.type c, _, .seq its _, _⟩ => decide (c = "tuple") && (decide (its.size ≤ 16777216) && (decide (its.toList.length = ts.length) && (List.zip ts its.toList).all fun q => relT K k q.1 q.2))
    | _ => false)
  | _, _, _ => false
theorem relTs_ok {Y : Wd} {f : T → Value → Bool} (hf : ∀ t u, f t u = true → ∃ v, RelV v u ∧ ∀ ρ H, Rp Y ρ H t v) : ∀ {ts : List T} {us : List Value}, us.length = ts.length → ((List.zip ts us).all fun q => f q.1 q.2) = true → ∃ vs, Vals vs us ∧ ∀ ρ H, Rps Y ρ H ts vs
  | [], [], _, _ => ⟨[], .nil, fun _ _ => .nil⟩
  | [], _ :: _, h, _ => by cases h
  | _ :: _, [], h, _ => by cases h
  | t :: ts, u :: us, h, e => by
    simp only [List.zip_cons_cons, List.all_cons, Bool.and_eq_true] at e
    obtain ⟨v, r1, r2⟩ := hf t u e.1
    obtain ⟨vs, q1, q2⟩ := relTs_ok hf (by simpa using h) e.2
    exact ⟨v :: vs, .cons r1 q1, fun ρ H => .cons (r2 ρ H) (q2 ρ H)⟩
theorem relT_ok {Y : Wd} : ∀ (k : Nat) (t : T) (u : Value), relT Y.K k t u = true → ∃ v, RelV v u ∧ ∀ ρ H, Rp Y ρ H t v := by
  intro k
  induction k with
  | zero =>
    intro t u h
    cases t <;> cases u <;> first | (cases h; done) | skip
    · exact ⟨.non, rfl, fun _ _ => .non⟩
    · have e := eq_of_beq h; subst e; exact ⟨.bl _, rfl, fun _ _ => .bl _⟩
    · have e := of_decide_eq_true h; subst e; exact ⟨.int _, ⟨_, rfl⟩, fun _ _ => .int _⟩
    · simp only [relT, Bool.and_eq_true] at h
      have e := of_decide_eq_true h.1; subst e
      exact ⟨.str _, ⟨_, rfl⟩, fun _ _ => .str (of_decide_eq_true h.2)⟩
  | succ k ih =>
    intro t u h
    cases t <;> cases u <;> first | (cases h; done) | skip
    · exact ⟨.non, rfl, fun _ _ => .non⟩
    · have e := eq_of_beq h; subst e; exact ⟨.bl _, rfl, fun _ _ => .bl _⟩
    · have e := of_decide_eq_true h; subst e; exact ⟨.int _, ⟨_, rfl⟩, fun _ _ => .int _⟩
    · simp only [relT, Bool.and_eq_true] at h
      have e := of_decide_eq_true h.1; subst e
      exact ⟨.str _, ⟨_, rfl⟩, fun _ _ => .str (of_decide_eq_true h.2)⟩
    · rename_i ts a
      simp only [relT] at h
      split at h
      · rename_i c od its n sl lk
        simp only [Bool.and_eq_true] at h
        obtain ⟨h1, h2, h3, h4⟩ := h
        have e := of_decide_eq_true h1
        subst e
        obtain ⟨vs, q1, q2⟩ := relTs_ok ih (of_decide_eq_true h3) h4
        have hz : its.size ≤ sizeLine := by rw [sizeLine_eq]; exact of_decide_eq_true h2
        have hl : vs.length = its.toList.length := q1.length
        refine ⟨.ref a, rfl, fun ρ H => .tup ⟨by rw [hl, Array.length_toList]; exact hz, .inr ⟨_, its, n, lk, rfl, rfl, hz, q1⟩⟩ (q2 ρ H)⟩
      · cases h
/-- the Bool of a written dict -/
def kdB (K : PySem.W.Frag) (x : Str) (kvs : List (Str × T)) : Bool := match K.lookup (He.ga K x) with
  | some ⟨_, _, .dict es _, _⟩ => decide (es.toList.map (fun e => match e.key with | .str x _ => some x | _ => none) = kvs.map fun q => some q.1) && (!es.toList.any (·.refKey) && kvs.all fun q => match PySem.W.nsIn K (He.ga K x) q.1 with
      | some (some u) => relT K 3 q.2 u
      | _ => false)
  | _ => false
theorem lookup_mem' {kvs : List (Str × T)} {k : Str} {t : T} (h : kvs.lookup k = some t) : (k, t) ∈ kvs := by
  induction kvs with
  | nil => cases h
  | cons q r ih =>
    obtain ⟨a, b⟩ := q
    simp only [List.lookup] at h
    split at h
    · rename_i e
      cases h
      rw [eq_of_beq e]
      exact List.mem_cons_self
    · exact List.mem_cons_of_mem _ (ih h)
theorem kd_of {Y : Wd} {w : World} {x : Str} {kvs : List (Str × T)} (hd : ∃ es n, KDict Y.K w (He.ga Y.K x) es n) (hb : kdB Y.K x kvs = true) : KD Y w (He.ga Y.K x) kvs := by
  obtain ⟨es, n, D⟩ := hd
  unfold kdB at hb
  rw [D.at_] at hb
  simp only [Bool.and_eq_true] at hb
  obtain ⟨h1, h2, h3⟩ := hb
  have hk := of_decide_eq_true h1
  refine ⟨⟨es, n, D, hk⟩, fun k t e => ?_, fun k e => ?_⟩
  · have h4 := List.all_eq_true.mp h3 _ (lookup_mem' e)
    simp only at h4
    split at h4
    · rename_i u eu
      obtain ⟨v, r1, r2⟩ := relT_ok 3 t u h4
      exact ⟨u, v, eu, r1, r2⟩
    · cases h4
  · unfold PySem.W.nsIn
    rw [D.at_]
    simp only
    have hn : es.toList.find? (·.key.isStr k) = none := by
      rw [List.find?_eq_none]
      intro en hen hz
      have hm : (match en.key with | .str x _ => some x | _ => none) ∈ kvs.map fun q => some q.1 := by
        rw [← hk]
        exact List.mem_map.mpr ⟨en, hen, rfl⟩
      cases q : en.key with
      | str y tk =>
        rw [q] at hm hz
        have hy : y = k := by simpa [Value.isStr] using hz
        subst hy
        simp only [List.mem_map, Option.some.injEq] at hm
        obtain ⟨p, hp, ep⟩ := hm
        rw [List.lookup_eq_none_iff] at e
        have := e p hp
        rw [ep] at this
        simp at this
      | _ => rw [q] at hz; simp [Value.isStr] at hz
    rw [hn]
    have h2' : (es.toList.any (·.refKey)) = false := by
      cases q : es.toList.any (·.refKey) with
      | false => rfl
      | true => rw [q] at h2; cases h2
    simp only [h2']
    rfl
end TL

set_option Elab.async false
set_option linter.all false
set_option maxRecDepth 100000
set_option maxHeartbeats 4000000
namespace TL
open PySem PySem.Spec L2
/-- the classes: number, name, attributes -/
abbrev ClT := List (Nat × Str × List Str)
def wdOf (cl : ClT) (K : PySem.W.Frag) : Wd := ⟨K, fun c => (cl.lookup c).map fun q => He.ga K q.1, fun c => match cl.lookup c with | some q => q.2 | none => []⟩
theorem lookup_mem2 {α β : Type} [BEq α] [LawfulBEq α] {l : List (α × β)} {k : α} {t : β} (h : l.lookup k = some t) : (k, t) ∈ l := by
  induction l with
  | nil => cases h
  | cons q r ih =>
    obtain ⟨a, b⟩ := q
    simp only [List.lookup] at h
    split at h
    · rename_i e
      cases h
      rw [eq_of_beq e]
      exact List.mem_cons_self
    · exact List.mem_cons_of_mem _ (ih h)
/-- isinstance's answers -/
def isiChk (cl : ClT) (K : PySem.W.Frag) (w : Value) (y : TyC) : Bool := (tyNames.all fun n => decide (PySem.W.kitOne K (.type n) w = some (isiB (.b n) y))) && cl.all fun q => decide (PySem.W.kitOne K (.ref (He.ga K q.2.1)) w = some (isiB (.o q.1) y))
theorem isi_of {cl : ClT} {K : PySem.W.Frag} {w : Value} {y : TyC} (h : isiChk cl K w y = true) : ∀ x u, x.fit = true → x.v (wdOf cl K) u → PySem.W.kitOne K u w = some (isiB x y) := by
  unfold isiChk at h
  rw [Bool.and_eq_true] at h
  intro x u hf hv
  cases x with
  | b n =>
    cases hv
    have hm : n ∈ tyNames := by simpa [TyC.fit] using hf
    exact of_decide_eq_true (List.all_eq_true.mp h.1 n hm)
  | o c =>
    obtain ⟨C, hC, rfl⟩ := hv
    have hC : (cl.lookup c).map (fun q => He.ga K q.1) = some C := hC
    rw [Option.map_eq_some_iff] at hC
    obtain ⟨q, hq, rfl⟩ := hC
    exact of_decide_eq_true (List.all_eq_true.mp h.2 _ (lookup_mem2 hq))
def cfB (K : PySem.W.Frag) (C : Addr) : Bool := He.eqO (PySem.W.findIn K (.ref C) "__class__") (some (some (.builtin "object.__class__"))) && (He.eqO (PySem.W.specialIn K (.builtin "object.__class__") "__get__") (some (some (.builtin "getset_descriptor.__get__"))) &&
  (decide (PySem.W.takesIn K (.builtin "object.__class__") = some true) && decide (PySem.W.mroIn K C (.type "object") = some true)))
theorem cf_of {K : PySem.W.Frag} {x : Str} (c : (He.Fa.cls x).ok K = true) (h : cfB K (He.ga K x) = true) : CF K (He.ga K x) := by
  unfold cfB at h
  simp only [Bool.and_eq_true] at h
  exact ⟨He.cls_ok c, He.eqO_ok h.1, He.eqO_ok h.2.1, of_decide_eq_true h.2.2.1, of_decide_eq_true h.2.2.2⟩
theorem wd_ok {cl : ClT} {K : PySem.W.Frag} (h : ∀ q ∈ cl, CF K (He.ga K q.2.1)) : WdOk (wdOf cl K) := fun c C e => by
  have e : (cl.lookup c).map (fun q => He.ga K q.1) = some C := e
  rw [Option.map_eq_some_iff] at e
  obtain ⟨q, hq, rfl⟩ := e
  exact h _ (lookup_mem2 hq)
/-- the heap behind the law's start: the script alone -/
theorem start_hr {Y : Wd} {H : Hp} : HR Y ⟨[], []⟩ H [] := by
  constructor
  · rfl
  · exact List.Pairwise.nil
  · intro a ha; cases ha
  · intro n o a h1 h2; simp at h1
theorem ints_rps {Y : Wd} {ρ : Rh} {H : Hp} : ∀ ns : List Int, Rps Y ρ H (ns.map T.int) (ns.map V.int)
  | [] => .nil
  | x :: xs => .cons (.int x) (ints_rps xs)
theorem start_rp {Y : Wd} {H : Hp} {a : Addr} {ns : List Int} (hS : SqL Y.K H a (ns.map V.int)) (hz : ns.length ≤ sizeLine) : Rp Y ⟨[], []⟩ H (.arg (ns.map T.int)) (.ref a) := by
  refine .arg (vs := ns.map V.int) ⟨by rw [List.length_map]; exact hz, ?_⟩ (ints_rps ns)
  rcases hS with h | ⟨o, its, n, h1, h2, h3, h4, h5, h6⟩
  · exact .inl ⟨⟨by simp, by simp⟩, h⟩
  · exact .inr ⟨o, its, n, h1, h2, h3, h4, h5, h6⟩
/-- the law's promise, from what its mirror gives -/
theorem law_sp {Y : Wd} {H : Hp} {a : Addr} {ns : List Int} {m : List T → VH → Res T} {h' : VH} (hS : SqL Y.K H a (ns.map V.int)) (hz : ns.length ≤ sizeLine) (e : m [.arg (ns.map T.int)] [] = .ok (.bl true) h') :
    spM Y m [.ref a] H (fun v _ => v = .bl true) fun _ _ _ => False := ⟨⟨[], []⟩, _, [], _, h', .cons (start_rp hS hz) .nil, start_hr, e, ⟨fun ρ' H' v ev hr r => by cases r; rfl⟩⟩
end TL

set_option Elab.async false
set_option linter.all false
set_option maxRecDepth 100000
set_option maxHeartbeats 4000000
namespace TL
open PySem L2
/-! ### plain rules: loops and comprehensions over what does not change -/
theorem lcL_pure {rd : VH → Option (List T)} {g : MG} {c : MB} {e : ME} {τ : TS_} {h : VH} {ts : List T} (hrd : rd h = some ts) (p : T → Bool) (f : T → T) (hb : ∀ t ∈ ts, ∃ τ1, g t τ h = .ok τ1 h ∧ c τ1 h = .ok (p t) h ∧ (p t = true → e τ1 h = .ok (f t) h)) :
    ∀ (k i : Nat) (acc : List T), i + k = ts.length → lcL rd g c e τ ts.length k i acc h = .ok (acc ++ ((ts.drop i).filter p).map f) h := by
  intro k
  induction k with
  | zero =>
    intro i acc hi
    have : ts.drop i = [] := List.drop_eq_nil_of_le (by omega)
    rw [this]
    simp [lcL, hrd]
  | succ k ih =>
    intro i acc hi
    have hlt : i < ts.length := by omega
    have e1 : ts[i]? = some ts[i] := List.getElem?_eq_getElem hlt
    obtain ⟨τ1, h1, h2, h3⟩ := hb ts[i] (List.getElem_mem hlt)
    have hd : ts.drop i = ts[i] :: ts.drop (i + 1) := List.drop_eq_getElem_cons hlt
    cases hp : p ts[i] with
    | true =>
      have h3 := h3 hp
      rw [hp] at h2
      have z := ih (i + 1) (acc ++ [f ts[i]]) (by omega)
      simp only [lcL, hrd, e1, h1, h2, h3, if_true]
      rw [z, hd, List.filter_cons, if_pos hp, List.map_cons, List.append_assoc, List.singleton_append]
    | false =>
      rw [hp] at h2
      have z := ih (i + 1) acc (by omega)
      simp only [lcL, hrd, e1, h1, h2, if_true]
      rw [z, hd, List.filter_cons, if_neg (by rw [hp]; exact Bool.false_ne_true)]
theorem mLc_pure {mi : MI} {ws : List Nat} {g : MG} {c : MB} {e : ME} {τ : TS_} {h : VH} {rd : VH → Option (List T)} {ts : List T} (hm : mi τ h = .ok rd h) (hrd : rd h = some ts) (hl : ts.length ≤ 16777216) (p : T → Bool) (f : T → T)
    (hb : ∀ t ∈ ts, ∃ τ1, g t (wipeT τ ws) h = .ok τ1 h ∧ c τ1 h = .ok (p t) h ∧ (p t = true → e τ1 h = .ok (f t) h)) : mLc mi ws g c e τ h = .ok ((ts.filter p).map f) h := by
  have z := lcL_pure (τ := wipeT τ ws) hrd p f hb ts.length 0 [] (by omega)
  simp [mLc, hm, hrd, hl, z]
/-- without a test -/
theorem mLc_map {mi : MI} {ws : List Nat} {g : MG} {e : ME} {τ : TS_} {h : VH} {rd : VH → Option (List T)} {ts : List T} (hm : mi τ h = .ok rd h) (hrd : rd h = some ts) (hl : ts.length ≤ 16777216) (f : T → T)
    (hb : ∀ t ∈ ts, ∃ τ1, g t (wipeT τ ws) h = .ok τ1 h ∧ e τ1 h = .ok (f t) h) : mLc mi ws g bYes e τ h = .ok (ts.map f) h := by
  have z := mLc_pure (c := bYes) hm hrd hl (fun _ => true) f fun t ht => let ⟨τ1, a, b⟩ := hb t ht; ⟨τ1, a, rfl, fun _ => b⟩
  rw [z, List.filter_eq_self.mpr fun _ _ => rfl]
/-- a loop that goes on to its end, by an invariant -/
theorem forL_inv {rd : VH → Option (List T)} {g : MG} {body : MS} {ts : List T} (I : Nat → TS_ → VH → Prop) (hrd : ∀ i τ h, I i τ h → rd h = some ts)
    (step : ∀ i (hi : i < ts.length) τ h, I i τ h → ∃ τ1 h1 τ2 h2, g ts[i] τ h = .ok τ1 h1 ∧ (body τ1 h1 = .nx τ2 h2 ∨ body τ1 h1 = .ct τ2 h2) ∧ I (i + 1) τ2 h2) :
    ∀ (k i : Nat) τ h, i + k = ts.length → I i τ h → ∃ τ' h', forL rd g body ts.length k i τ h = .nx τ' h' ∧ I ts.length τ' h' := by
  intro k
  induction k with
  | zero =>
    intro i τ h hi hI
    have e : i = ts.length := by omega
    subst e
    exact ⟨τ, h, by simp [forL, hrd _ _ _ hI], hI⟩
  | succ k ih =>
    intro i τ h hi hI
    have hlt : i < ts.length := by omega
    have e1 : ts[i]? = some ts[i] := List.getElem?_eq_getElem hlt
    obtain ⟨τ1, h1, τ2, h2, a, b, c⟩ := step i hlt τ h hI
    obtain ⟨τ', h', q1, q2⟩ := ih (i + 1) τ2 h2 (by omega) c
    refine ⟨τ', h', ?_, q2⟩
    rcases b with b | b <;> simp [forL, hrd _ _ _ hI, e1, a, b, q1]
theorem sFor_inv {mi : MI} {g : MG} {body : MS} {τ : TS_} {h h1 : VH} {rd : VH → Option (List T)} {ts : List T} (I : Nat → TS_ → VH → Prop) (hm : mi τ h = .ok rd h1) (h0 : I 0 τ h1) (hrd : ∀ i τ h, I i τ h → rd h = some ts)
    (step : ∀ i (hi : i < ts.length) τ h, I i τ h → ∃ τ1 h1 τ2 h2, g ts[i] τ h = .ok τ1 h1 ∧ (body τ1 h1 = .nx τ2 h2 ∨ body τ1 h1 = .ct τ2 h2) ∧ I (i + 1) τ2 h2) :
    ∃ τ' h', sFor mi g body τ h = .nx τ' h' ∧ I ts.length τ' h' := by
  obtain ⟨τ', h', q1, q2⟩ := forL_inv I hrd step ts.length 0 τ h1 (by omega) h0
  exact ⟨τ', h', by simp [sFor, hm, hrd _ _ _ h0, q1], q2⟩
/-- a loop whose i-th turn hands back -/
theorem forL_ret {rd : VH → Option (List T)} {g : MG} {body : MS} {ts : List T} (I : Nat → TS_ → VH → Prop) (hrd : ∀ i τ h, I i τ h → rd h = some ts) {j : Nat} (hj : j < ts.length) {t : T}
    (step : ∀ i (hi : i < ts.length), i < j → ∀ τ h, I i τ h → ∃ τ1 h1 τ2 h2, g ts[i] τ h = .ok τ1 h1 ∧ (body τ1 h1 = .nx τ2 h2 ∨ body τ1 h1 = .ct τ2 h2) ∧ I (i + 1) τ2 h2)
    (last : ∀ τ h, I j τ h → ∃ τ1 h1 h2, g ts[j] τ h = .ok τ1 h1 ∧ body τ1 h1 = .rt t h2) :
    ∀ (k i : Nat) τ h, i + k = ts.length → i ≤ j → I i τ h → ∃ h', forL rd g body ts.length k i τ h = .rt t h' := by
  intro k
  induction k with
  | zero => intro i τ h hi hij hI; omega
  | succ k ih =>
    intro i τ h hi hij hI
    have hlt : i < ts.length := by omega
    have e1 : ts[i]? = some ts[i] := List.getElem?_eq_getElem hlt
    by_cases q : i = j
    · subst q
      obtain ⟨τ1, h1, h2, a, b⟩ := last τ h hI
      exact ⟨h2, by simp [forL, hrd _ _ _ hI, e1, a, b]⟩
    · obtain ⟨τ1, h1, τ2, h2, a, b, c⟩ := step i hlt (by omega) τ h hI
      obtain ⟨h', q1⟩ := ih (i + 1) τ2 h2 (by omega) (by omega) c
      refine ⟨h', ?_⟩
      rcases b with b | b <;> simp [forL, hrd _ _ _ hI, e1, a, b, q1]
theorem sFor_ret {mi : MI} {g : MG} {body : MS} {τ : TS_} {h h1 : VH} {rd : VH → Option (List T)} {ts : List T} (I : Nat → TS_ → VH → Prop) (hm : mi τ h = .ok rd h1) (h0 : I 0 τ h1) (hrd : ∀ i τ h, I i τ h → rd h = some ts) {j : Nat} (hj : j < ts.length) {t : T}
    (step : ∀ i (hi : i < ts.length), i < j → ∀ τ h, I i τ h → ∃ τ1 h1 τ2 h2, g ts[i] τ h = .ok τ1 h1 ∧ (body τ1 h1 = .nx τ2 h2 ∨ body τ1 h1 = .ct τ2 h2) ∧ I (i + 1) τ2 h2)
    (last : ∀ τ h, I j τ h → ∃ τ1 h1 h2, g ts[j] τ h = .ok τ1 h1 ∧ body τ1 h1 = .rt t h2) : ∃ h', sFor mi g body τ h = .rt t h' := by
  obtain ⟨h', q⟩ := forL_ret I hrd hj step last ts.length 0 τ h1 (by omega) (by omega) h0
  exact ⟨h', by simp [sFor, hm, hrd _ _ _ h0, q]⟩
/-- a loop that goes on to its end or hands something back -/
theorem forL_or {rd : VH → Option (List T)} {g : MG} {body : MS} {ts : List T} (I : Nat → TS_ → VH → Prop) (R : T → VH → Prop) (hrd : ∀ i τ h, I i τ h → rd h = some ts)
    (step : ∀ i (hi : i < ts.length) τ h, I i τ h → ∃ τ1 h1, g ts[i] τ h = .ok τ1 h1 ∧ ((∃ τ2 h2, body τ1 h1 = .nx τ2 h2 ∧ I (i + 1) τ2 h2) ∨ ∃ t h2, body τ1 h1 = .rt t h2 ∧ R t h2)) :
    ∀ (k i : Nat) τ h, i + k = ts.length → I i τ h → (∃ τ' h', forL rd g body ts.length k i τ h = .nx τ' h' ∧ I ts.length τ' h') ∨ ∃ t h', forL rd g body ts.length k i τ h = .rt t h' ∧ R t h' := by
  intro k
  induction k with
  | zero =>
    intro i τ h hi hI
    have e : i = ts.length := by omega
    subst e
    exact .inl ⟨τ, h, by simp [forL, hrd _ _ _ hI], hI⟩
  | succ k ih =>
    intro i τ h hi hI
    have hlt : i < ts.length := by omega
    have e1 : ts[i]? = some ts[i] := List.getElem?_eq_getElem hlt
    obtain ⟨τ1, h1, a, b⟩ := step i hlt τ h hI
    rcases b with ⟨τ2, h2, b, c⟩ | ⟨t, h2, b, c⟩
    · rcases ih (i + 1) τ2 h2 (by omega) c with ⟨τ', h', q1, q2⟩ | ⟨t, h', q1, q2⟩
      · exact .inl ⟨τ', h', by simp [forL, hrd _ _ _ hI, e1, a, b, q1], q2⟩
      · exact .inr ⟨t, h', by simp [forL, hrd _ _ _ hI, e1, a, b, q1], q2⟩
    · exact .inr ⟨t, h2, by simp [forL, hrd _ _ _ hI, e1, a, b], c⟩
theorem sFor_or {mi : MI} {g : MG} {body : MS} {τ : TS_} {h h1 : VH} {rd : VH → Option (List T)} {ts : List T} (I : Nat → TS_ → VH → Prop) (R : T → VH → Prop) (hm : mi τ h = .ok rd h1) (h0 : I 0 τ h1) (hrd : ∀ i τ h, I i τ h → rd h = some ts)
    (step : ∀ i (hi : i < ts.length) τ h, I i τ h → ∃ τ1 h1, g ts[i] τ h = .ok τ1 h1 ∧ ((∃ τ2 h2, body τ1 h1 = .nx τ2 h2 ∧ I (i + 1) τ2 h2) ∨ ∃ t h2, body τ1 h1 = .rt t h2 ∧ R t h2)) :
    (∃ τ' h', sFor mi g body τ h = .nx τ' h' ∧ I ts.length τ' h') ∨ ∃ t h', sFor mi g body τ h = .rt t h' ∧ R t h' := by
  rcases forL_or I R hrd step ts.length 0 τ h1 (by omega) h0 with ⟨τ', h', q1, q2⟩ | ⟨t, h', q1, q2⟩
  · exact .inl ⟨τ', h', by simp [sFor, hm, hrd _ _ _ h0, q1], q2⟩
  · exact .inr ⟨t, h', by simp [sFor, hm, hrd _ _ _ h0, q1], q2⟩
theorem range_at {lo : Int} {n i : Nat} (hi : i < (rangeT lo n).length) : i < n ∧ (rangeT lo n)[i] = .int (lo + i) := by
  have hl : i < n := by simpa [rangeT] using hi
  exact ⟨hl, by simp [rangeT]⟩
theorem range_len (lo : Int) (n : Nat) : (rangeT lo n).length = n := by simp [rangeT]
theorem cut1 (xs : List T) : cutT xs (some 1) none = xs.drop 1 := by
  unfold cutT HT.sIx
  simp only [Option.getD]
  cases xs with
  | nil => simp
  | cons a r =>
    have e : (min (1 : Int) ((a :: r).length : Nat)).toNat = 1 := by simp only [List.length_cons]; omega
    simp
theorem seq_nx {f g : MS} {τ τ1 : TS_} {h h1 : VH} (e : f τ h = .nx τ1 h1) : sSeq f g τ h = g τ1 h1 := by unfold sSeq; rw [e]
theorem seq_rt {f g : MS} {τ : TS_} {h h1 : VH} {t : T} (e : f τ h = .rt t h1) : sSeq f g τ h = .rt t h1 := by unfold sSeq; rw [e]
theorem defM_rt {n p : Nat} {f : MS} {ts : List T} {h h' : VH} {t : T} (hl : ts.length = p) (e : f (startT n ts) h = .rt t h') : defM n p f ts h = .ok t h' := by unfold defM; rw [if_pos hl, e]
theorem defM_nx {n p : Nat} {f : MS} {ts : List T} {h h' : VH} {τ : TS_} (hl : ts.length = p) (e : f (startT n ts) h = .nx τ h') : defM n p f ts h = .ok .non h' := by unfold defM; rw [if_pos hl, e]
theorem set_ok {i : Nat} {f : ME} {τ : TS_} {h h1 : VH} {t : T} (e : f τ h = .ok t h1) : sSet i f τ h = .nx (τ.set i (some t)) h1 := by unfold sSet; rw [e]
theorem ret_ok {f : ME} {τ : TS_} {h h1 : VH} {t : T} (e : f τ h = .ok t h1) : sRet f τ h = .rt t h1 := by unfold sRet; rw [e]
theorem if_t {c : MB} {f g : MS} {τ : TS_} {h h1 : VH} (e : c τ h = .ok true h1) : sIf c f g τ h = f τ h1 := by unfold sIf; rw [e]
theorem if_f {c : MB} {f g : MS} {τ : TS_} {h h1 : VH} (e : c τ h = .ok false h1) : sIf c f g τ h = g τ h1 := by unfold sIf; rw [e]
theorem expr_ok {f : ME} {τ : TS_} {h h1 : VH} {t : T} (e : f τ h = .ok t h1) : sExpr f τ h = .nx τ h1 := by unfold sExpr; rw [e]
theorem call_ok {b : List T → VH → Res T} {g : MA} {τ : TS_} {h h1 : VH} {ts : List T} (e : g τ h = .ok ts h1) : eCall b g τ h = b ts h1 := by unfold eCall; rw [e]
theorem cons_ok {f : ME} {g : MA} {τ : TS_} {h h1 h2 : VH} {t : T} {ts : List T} (e : f τ h = .ok t h1) (e2 : g τ h1 = .ok ts h2) : aCons f g τ h = .ok (t :: ts) h2 := by unfold aCons; simp only [e, e2]
theorem op_ok {b : T → T → VH → Res T} {f g : ME} {τ : TS_} {h h1 h2 : VH} {t u : T} (e : f τ h = .ok t h1) (e2 : g τ h1 = .ok u h2) : eOp b f g τ h = b t u h2 := by unfold eOp; simp only [e, e2]
theorem test_ok {f : ME} {τ : TS_} {h h1 : VH} {b : Bool} (e : f τ h = .ok (.bl b) h1) : bTest f τ h = .ok b h1 := by unfold bTest; simp only [e]
theorem eL_ok {f : MA} {τ : TS_} {h h1 : VH} {ts : List T} (e : f τ h = .ok ts h1) : eL f τ h = .ok (.lst ts) h1 := by unfold eL; simp only [e]
/-! ### data -/
theorem dat_int {h : VH} {k : Nat} {i : Int} : T.dat h k (.int i) = some (.int i) := by cases k <;> rfl
theorem dat_non {h : VH} {k : Nat} : T.dat h k .non = some .none := by cases k <;> rfl
theorem dat_bl {h : VH} {k : Nat} {b : Bool} : T.dat h k (.bl b) = some (.bool b) := by cases k <;> rfl
theorem dat_str {h : VH} {k : Nat} {x : Str} : T.dat h k (.str x) = some (.str x) := by cases k <;> rfl
theorem dat_lst {h : VH} {k : Nat} {ts : List T} : T.dat h (k + 1) (.lst ts) = (ts.mapM (T.dat h k)).map .list := rfl
theorem dat_tup {h : VH} {k : Nat} {ts : List T} : T.dat h (k + 1) (.tup ts) = (ts.mapM (T.dat h k)).map .tuple := rfl
theorem mapM_some {α β : Type} {f : α → Option β} {g : α → β} : ∀ {l : List α}, (∀ a ∈ l, f a = some (g a)) → l.mapM f = some (l.map g)
  | [], _ => rfl
  | a :: l, h => by
    rw [List.mapM_cons, h a List.mem_cons_self, mapM_some fun b hb => h b (List.mem_cons_of_mem _ hb)]
    rfl
theorem eqv_refl_all {α : Type} [DecidableEq α] [W.Datum α] (a : α) : PyData.eqv (W.Datum.toD a) (W.Datum.toD a) = true := by rw [W.Datum.eqv]; simp
theorem intsOf_map : ∀ ns : List Int, intsOf (ns.map T.int) = some ns
  | [] => rfl
  | n :: ns => by simp [intsOf, intsOf_map ns]
theorem blsOf_map : ∀ ns : List Bool, blsOf (ns.map T.bl) = some ns
  | [] => rfl
  | n :: ns => by simp [blsOf, blsOf_map ns]
theorem strsOf_map : ∀ ns : List Str, strsOf (ns.map T.str) = some ns
  | [] => rfl
  | n :: ns => by simp [strsOf, strsOf_map ns]
theorem ix_nn {α : Type} {xs : List α} {i : Int} (h0 : 0 ≤ i) (h1 : i < xs.length) : atI xs i = xs[i.toNat]? := by
  unfold atI ixN
  rw [if_pos h0, if_pos h1]
  rfl
end TL

set_option Elab.async false
set_option linter.all false
set_option maxRecDepth 100000
set_option maxHeartbeats 4000000
namespace TL
open PySem PySem.Spec L2 PyProof.Rows
/-! ### defs that are run where nothing is being shown: in them repr of data is known -/
/-- the code that runs around shows nothing -/
abbrev Quiet (A : Around) : Prop := A.guards = some []
/-- what a def whose mirror is m gives, called where all is quiet -/
structure FnQ (P : Program) (w : World) (K : PySem.W.Frag) (mg : Str → Option Value) (base : Heap) (Y : Wd) (k : Nat) (f : Addr) (fd : FuncData) (ps : List Str) (m : List T → VH → Res T) : Prop where
  many : ∀ ts h t h', m ts h = .ok t h' → ts.length = ps.length
  goes : ∀ (A : Around), Quiet A → Room k A → ∀ (outer : List Env) (s : Shared) (H : Hp), Env0 P w K mg base A outer s H → ∀ (args : Args) (us : List Value) (vs : List V), BindsTo s fd args (ps.zip us) → Vals vs us →
    ∀ Q : VK, spM Y m vs H Q E0 → codeAny (model P w) A (.call (.ref f) args) (CR CX0 outer P w H s Q E0) s
section
variable {P : Program} {w : World} {K : PySem.W.Frag} {mg : Str → Option Value} {base : Heap} {Y : Wd} {k : Nat} {f : Addr} {fd : FuncData} {ps N : List Str} {m : List T → VH → Res T}
theorem spM_many {vs : List V} {H : Hp} {Q : VK} {E : XK} {n : Nat} (many : ∀ ts h t h', m ts h = .ok t h' → ts.length = n) (q : spM Y m vs H Q E) : vs.length = n :=
  let ⟨_, ts, h, t, h', r, _, e, _⟩ := q
  r.length.trans (many ts h t h' e)
/-- a promise that holds everywhere -/
theorem FnQ.of (F : FnOk P w K mg base CX0 k f fd ps (spM Y m)) (many : ∀ ts h t h', m ts h = .ok t h' → ts.length = ps.length) : FnQ P w K mg base Y k f fd ps m :=
  ⟨many, fun A _ hr outer s H e0 args us vs b r Q q => F.run A outer s H args us vs Q E0 hr e0 b r q⟩
theorem FnQ.cut (F : FnQ P w K mg base Y k f fd ps m) : FnQ P w K mg base Y k f fd ps (cutM m) where
  many ts h t h' e := by
    unfold cutM at e
    cases q : m ts h with
    | bad => rw [q] at e; cases e
    | ok u h1 => exact F.many _ _ _ _ q
  goes A hq hr outer s H e0 args us vs b r Q q := F.goes A hq hr outer s H e0 args us vs b r Q (spM_cut q)
theorem defM_many {n p : Nat} {g : MS} {ts : List T} {h h' : VH} {t : T} (e : defM n p g ts h = .ok t h') : ts.length = p := by
  unfold defM at e
  split at e
  · assumption
  · cases e
/-- how a body ends, told to who called -/
theorem ends_ok {N : List Str} {qual : Str} {scope : Scope} {cd : Value} {A : Around} {outer : List Env} {s s' : Shared} {H : Hp} {Q : VK} {r : Flow}
    (z : SP (cxOf CX0 P w K mg base N qual scope f cd A outer s H E0) [] { nx := fun _ H' => Q .non H', rt := Q } r s') : ∃ u, (match r with | .next => some Value.none | .ret u => some u | _ => none) = some u ∧ CE outer P w H s Q u s' := by
  cases r with
  | next => exact let ⟨_, H', J, q⟩ := z; ⟨_, rfl, .non, H', J.os, J.bare, J.base, J.hok, rfl, q⟩
  | ret u => exact let ⟨v, _, H', J, r, q⟩ := z; ⟨_, rfl, v, H', J.os, J.bare, J.base, J.hok, r, q⟩
  | brk => exact let ⟨_, _, _, q⟩ := z; q.elim
  | cont => exact let ⟨_, _, _, q⟩ := z; q.elim
/-- from a promise by the mirror to the reading of the body -/
theorem tms_start {N : List Str} {p : Nat} {g : MS} {vs : List V} {H : Hp} {Q : VK} (q : spM Y (defM N.length p g) vs H Q E0) : TMS Y g { nx := fun _ H' => Q .non H', rt := Q } (L2.start N vs) H := by
  obtain ⟨ρ, ts, h, t, h', r, hr, e, to⟩ := q
  have hl := defM_many e
  refine ⟨ρ, startT N.length ts, h, ⟨sl_start r, hr⟩, ?_⟩
  unfold defM at e
  rw [if_pos hl] at e
  cases z : g (startT N.length ts) h with
  | nx τ' h1 => rw [z] at e; cases e; exact fun ρ' H' σ' ev hr' _ => to.to ρ' H' .non ev hr' .non
  | rt u h1 => rw [z] at e; cases e; exact fun ρ' H' v ev hr' r' => to.to ρ' H' v ev hr' r'
  | bk τ' h1 => rw [z] at e; cases e
  | ct τ' h1 => rw [z] at e; cases e
  | bad => rw [z] at e; cases e
/-- the promise of such a def, by its body -/
theorem fnQ {x qual : Str} {params : Arguments} {body : List Stmt} {scope : Scope} {dvs : List V} {kws : List (Str × V)} {g : MS} (F : FunD K x qual params body scope dvs kws f fd) (S : FnScope N ps scope) (n p : Nat) (hn : N.length = n := by rfl) (hp : ps.length = p := by rfl)
    (hb : ∀ (cdv : Value) (A : Around) (outer : List Env) (s : Shared) (H : Hp) (E : XK), Quiet (A.deeper (envOfC qual scope s.heap.objs.size f cdv)) → Room k (A.deeper (envOfC qual scope s.heap.objs.size f cdv)) → PSs (cxOf CX0 P w K mg base N qual scope f cdv A outer s H E).nox body (TMS Y g)) :
    FnQ P w K mg base Y (k + 1) f fd ps (defM n p g) := by
  subst hn hp
  refine ⟨fun ts h t h' e => defM_many e, ?_⟩
  intro A quiet hr outer s H e0 args us vs bound r Q q
  have hl : vs.length = ps.length := spM_many (fun ts h t h' e => defM_many e) q
  obtain ⟨oc, od, dV, kV, doc, pm, an, cdv, ct, osl, rfl, lk, hcd, -⟩ := F.ex
  have older : ∀ b o, base.get? b = some o → s.heap.get? b = some o := fun b o e => (e0.bs b o e).1
  have KX := e0.mod.kin.keeps older
  refine codeAny_call_function hr.depth (KX f _ lk) rfl S.co S.gen rfl (PySem.W.codeRec_of KX hcd) (bound _ _ _ _ (wpAny_newFunctionEnv_cells S.kind ?kinds ?body))
  case kinds =>
    rintro ⟨nm, u⟩ hy
    have hy := (List.of_mem_zip hy).1
    exact (S.par nm hy).imp id fun c => ⟨c, PySem.W.cellsFrom_some _ _ _ (.inl c)⟩
  case body =>
    rintro _ rfl s1 inside
    have run := ((hb cdv A outer s H E0 quiet (hr.deeper _)).nox).run [] s1 (L2.start N vs) H _ (inv_start S hr.hd e0 hl r inside) (tms_start q)
    refine ⟨(e0.mod.nolimit.keeps older).keeps inside.toInCall.keep, codeAny_func (wpAny_mono run ?_ fun _ _ z => z)⟩
    intro fl s' z
    obtain ⟨u, eu, ce⟩ := ends_ok z
    cases fl <;> cases eu <;> exact ce
end
section
variable {X : Cx} {Y : Wd}
/-- such a def called by its name -/
theorem xCallQ {k : Nat} {f : Addr} {fd : FuncData} {ps : List Str} {m : List T → VH → Res T} {x : Str} {p pos : Pos} {e : Expr} {es : List Expr} {g : MA} (F : FnQ X.prog X.w X.K X.mg X.base Y k f fd ps m) (quiet : Quiet X.A) (hr : Room k X.A) (hg : Gl X x) (hm : X.mg x = some (.ref f)) (kp : PySem.W.keepIn X.K (.ref f) = true)
    (hb : Binds X.K fd ps []) (ha : PA X (e :: es) (TMA Y g)) (hdb : (x == ("__debug__" : Str)) = false := by decide) (he : starEach (e :: es) X.env = (false, eval e X.env) :: starEach es X.env := by rfl) (hpl : (backTo pos (starEach es X.env)).any (·.1) = false := by rfl) :
    PE X (.Call (.Name x p) (e :: es) [] pos) (TM Y (eCall m g)) := by
  constructor
  intro pins s σ H Q I q
  have args := ha.run pos pins s σ H _ I (tm_call (ct_sp (m := m) E0) q)
  refine wpAny_Call_Name_kw (ld_glob I hg hm (PySem.W.callWith_K (h₀ := X.base) I.mod.kin kp (thn args ?_) he hpl) hdb)
  rintro us s1 ⟨vs, H1, J, r, sp⟩
  have eu : us.length = ps.length := r.length.symm.trans (spM_many F.many sp)
  have bd := hb s1 us J.kIn (by rw [List.append_nil]; exact eu)
  rw [List.append_nil] at bd
  refine ⟨J.kIn, wpAny_call (codeAny_mono (F.goes X.A quiet hr X.stack s1 H1 J.env0 _ us vs bd r Q sp) ?_)⟩
  intro res s2 z
  match res, z with
  | .ok (.ret u), z => exact J.after z
  | .error v, z => exact z.elim
end
/-! ### the law itself, called by the judge -/
section
variable {P : Program} {w : World} {K : PySem.W.Frag} {mg mb : Str → Option Value} {Y : Wd} {k : Nat} {fa a : Addr} {fd : FuncData} {x : Str} {m : List T → VH → Res T} {s : Shared} {vs : List Value} {ns : List Int}
theorem lawQ (inK : K.In s.heap) (glo : s.heap.Ns mainGlobals mg) (blt : s.heap.Ns builtinsNs mb) (std : ∀ x : Str, x ≠ "__name__" → mb x = bootBuiltins x) (noLim : s.heap.NoLimit) (noGen : s.gens = #[])
    (at_ : s.heap.get? a = some { cls := .type "list", data := .seq vs.toArray }) (nums : IntsAre vs ns) (few : ns.length ≤ sizeLine) (hr : Room k callerA) (hY : Y.K = K)
    (F : ∀ base : Heap, K.In base → base.Ns mainGlobals mg → FnQ P w K mg base Y k fa fd [x] m) (bind : ∀ (s : Shared) (u : Value), BindsTo s fd ⟨[u], []⟩ [(x, u)]) (law : ∃ h', m [.arg (ns.map T.int)] [] = .ok (.bl true) h') :
    codeAny (model P w) callerA (.call (.ref fa) ⟨[.ref a], []⟩) (fun r s' => r = .ok (.ret (.bool true)) ∧ OldK s.heap s'.heap ∧ s'.os = s.os ∧ AllBare s'.gens) s := by
  obtain ⟨h', law⟩ := law
  obtain ⟨o, ho⟩ : ∃ o : Obj, o = { cls := .type "list", data := .seq vs.toArray } := ⟨_, rfl⟩
  have at_ := ho ▸ at_
  -- the script alone is tracked, where it is no object of the module
  obtain ⟨H, hH⟩ : ∃ H : Hp, ∀ b, H b = if b = a ∧ K.lookup a = none then some (.frz o (.lst (ns.map V.int))) else none := ⟨_, fun b => rfl⟩
  have what : ∀ b u, H b = some u → b = a ∧ K.lookup a = none ∧ u = .frz o (.lst (ns.map V.int)) := fun b u e => by
    rw [hH] at e
    split at e
    · rename_i c; exact ⟨c.1, c.2, (Option.some.inj e).symm⟩
    · cases e
  have rel := vals_ints nums
  have size : (ns.map V.int).length ≤ sizeLine := by rw [List.length_map]; exact few
  have hok : HOk P w H s.heap := fun b u e => by
    obtain ⟨rfl, -, rfl⟩ := what b u e
    exact ⟨at_, size, vs, _, rel, ho ▸ at_⟩
  have script : SqL Y.K H a (ns.map V.int) := by
    rw [hY]
    cases lk : K.lookup a with
    | none => exact .inl (.inr ⟨o, (hH a).trans (if_pos ⟨rfl, lk⟩)⟩)
    | some q =>
      obtain rfl : o = q := Option.some.inj (at_.symm.trans (inK a q lk))
      exact .inr ⟨o, vs.toArray, _, lk, by rw [ho], by rw [ho], by rw [ho], by rw [List.size_toArray, ← rel.length]; exact size, rel⟩
  -- dicts are not tracked
  have names : ∀ {L : Addr} {f : Str → Option Value}, s.heap.Ns L f → (hidT s.heap H).Ns L f := fun {L f} ⟨q, es, ep, e, d, r⟩ => by
    refine ⟨q, es, ep, hidT_get e ?_, d, r⟩
    cases z : H L with
    | none => rfl
    | some u =>
      obtain ⟨rfl, -⟩ := what L u z
      rw [at_] at e
      obtain rfl := Option.some.inj e
      rw [ho] at d
      cases d
  have inB : K.In (hidT s.heap H) := fun b q e => by
    refine hidT_get (inK b q e) ?_
    cases z : H b with
    | none => rfl
    | some u =>
      obtain ⟨rfl, lk, -⟩ := what b u z
      rw [lk] at e
      cases e
  have env : Env0 P w K mg (hidT s.heap H) callerA [] s H := by
    constructor
    · rfl
    · exact ⟨inB, names glo, ⟨mb, names blt, std⟩, let ⟨mc, l1, l2⟩ := noLim; ⟨mc, names l1, l2⟩⟩
    · exact fun b q e => of_hidT e
    · exact Nat.le_of_eq (hidT_size s.heap H)
    · trivial
    · intro b hb; cases hb
    · exact hok
    · exact .of_eq noGen
  have run := (F _ inB (names glo)).goes callerA rfl hr [] s H env ⟨[.ref a], []⟩ [.ref a] [.ref a] (bind s (.ref a)) (.cons rfl .nil) _ (law_sp script few law)
  refine codeAny_mono run ?_
  intro r s' z
  match r, z with
  | .ok (.ret u), ⟨v, H', os, bare, un, hok', rv, q⟩ =>
    obtain rfl : v = .bl true := q
    obtain rfl : u = .bool true := rv
    refine ⟨rfl, .of_keep fun b ob e => ?_, os, bare⟩
    cases hb : H b with
    | none => exact un.keep b ob e hb List.not_mem_nil List.not_mem_nil
    | some u =>
      obtain ⟨rfl, -, rfl⟩ := what b u hb
      rw [at_] at e
      obtain rfl := Option.some.inj e
      exact (hok' b _ (un.frzs _ _ _ hb)).1
end
/-- the goal that a head leaves, for a law whose def is run where all is quiet -/
theorem walkQ {l : PySem.W.OpenLaw} {n k : Nat} {q : Program} {loose : List Str} {XP : (Str → Option Value) → Heap → Prop} {YP : World → Heap → Prop} {d : DefRec} {x : Str} (most : l.most = some n) (small : n ≤ sizeLine) (plain : d.params.defaults = []) (hr : Room k callerA)
    (F : ∀ (w : World) (mg : Str → Option Value) (fa : Addr) (h : Heap), YP w h → h.Ns mainGlobals mg → mg d.name = some (.ref fa) →
      ∃ (K : PySem.W.Frag) (fd : FuncData) (Y : Wd) (m : List T → VH → Res T), K.In h ∧ Y.K = K ∧ (∀ (s : Shared) (u : Value), BindsTo s fd ⟨[u], []⟩ [(x, u)]) ∧ (∀ ns : List Int, ns.length ≤ n → ∃ h', m [.arg (ns.map T.int)] [] = .ok (.bl true) h') ∧
        ∀ base : Heap, K.In base → base.Ns mainGlobals mg → FnQ l.prog w K mg base Y k fa fd [x] m) : PySem.W.WalkO q loose XP YP l.row.toRowW d [] (fun f vs => PySem.call f vs) := by
  refine Att.attach_call most plain ?_
  intro w s₀ s₁ mg mb fa o pm cd doc a vs ns G Y' ho hd hcd named script nums len noGen
  obtain ⟨K, fd, Y, m, inK, hY, bind, law, hF⟩ := F w mg fa _ Y' G.T.g named
  exact lawQ inK G.T.g G.T.b G.T.builtins G.T.nolimit noGen script nums (Nat.le_trans len small) hr hY hF bind (law ns len)
/-! ### repr of data -/
section
variable {X : Cx} {Y : Wd}
def rRepr (K : PySem.W.Frag) : List V → Hp → VK → Prop := fun vs H Q => ∃ x d, vs = [x] ∧ Dp K H x d ∧ d.showable = true ∧ d.hasDict = false ∧ d.depth ≤ 12 ∧ d.shown.length ≤ sizeLine ∧ Q (.str d.shown) H
theorem cr_repr (quiet : Quiet X.A) (room : X.A.units + 80 < cLine) : CallR X (.builtin "repr") (rRepr X.K) := by
  rintro pins s σ H _ us Q I r ⟨x, d, rfl, dp, sh, nd, dz, sz, q⟩
  match us, r with
  | [u], .cons rx .nil =>
    obtain ⟨as, rd⟩ := Dp.reads I d x u dp rx
    have fin : ∀ h' t tk, (∀ b o, s.heap.get? b = some o → h'.get? b = some o) → EP X pins σ Q (.str d.shown t) { s with heap := h', toks := tk } := fun h' t tk k => ⟨.str d.shown, H, I.kept k, ⟨t, rfl⟩, q⟩
    cases x with
    | ref b =>
      cases rx
      exact repr_of_reads' rd sh (fun e => by rw [nd] at e; cases e) quiet (by omega) (fun _ _ e => e) (fun h' t tk k => fin h' t tk k) sz
    | non => cases rx; cases dp; exact PySem.P.repr_of_none (fin s.heap _ _ fun _ _ e => e)
    | bl b => cases rx; cases dp; exact PySem.P.repr_of_bool (fin s.heap _ _ fun _ _ e => e)
    | int i => obtain ⟨t, rfl⟩ := rx; cases dp; exact PySem.P.repr_of_int (by simpa [PyData.showable] using sh) (fin s.heap _ _ fun _ _ e => e)
    | str z => obtain ⟨t, rfl⟩ := rx; cases dp; exact PySem.P.repr_of_str (fin s.heap _ _ fun _ _ e => e) sz
    | _ => cases dp
/-- repr(e) -/
def fRepr : List T → VH → Res T := fun ts h => match ts with
  | [t] => (match t.dat h 10 with
    | some d => if (d.showable && !d.hasDict && decide (d.shown.length ≤ 1000000)) = true then .ok (.str d.shown) h else .bad
    | none => .bad)
  | _ => .bad
theorem ct_repr : CT Y (rRepr Y.K) fRepr := fun ρ H ts vs h t h' Q r hr e to => by
  unfold fRepr at e
  split at e
  · rename_i u
    split at e
    · rename_i d ed
      split at e
      · rename_i c
        simp only [Bool.and_eq_true, Bool.not_eq_true', decide_eq_true_eq] at c
        cases e
        obtain ⟨v, rfl, rv⟩ := rps_one r
        obtain ⟨dp, _, dz⟩ := dat_ok hr _ _ _ _ rv ed
        exact ⟨v, d, rfl, dp, c.1.1, c.1.2, by omega, by rw [sizeLine_eq]; omega, to.to ρ H _ .refl hr (.str c.2)⟩
      · cases e
    · cases e
  · cases e
end
end TL

set_option Elab.async false
set_option linter.all false
set_option maxRecDepth 100000
set_option maxHeartbeats 4000000
namespace TL
open PySem PySem.Spec L2
/-! ### dicts with keys ints and texts -/
def keyT : T → Option Key
  | .int i => some (.inl i)
  | .str z => some (.inr z)
  | _ => none
section
variable {Y : Wd} {ρ : Rh} {H : Hp}
theorem keyT_ok {t : T} {v : V} {k : Key} (r : Rp Y ρ H t v) (e : keyT t = some k) : v = kV k := by
  cases r <;> simp [keyT] at e <;> subst e <;> rfl
theorem keyT_of {t : T} {k : Key} (r : Rp Y ρ H t (kV k)) : keyT t = some k := by
  cases k with
  | inl i => cases r; rfl
  | inr z => cases r; rfl
/-- pairs and what they stand for -/
inductive DR (Y : Wd) (ρ : Rh) (H : Hp) : List (T × T) → List (Key × V) → Prop
  | nil : DR Y ρ H [] []
  | cons {kt t : T} {k : Key} {v : V} {kvs : List (T × T)} {vk : List (Key × V)} : Rp Y ρ H kt (kV k) → Rp Y ρ H t v → DR Y ρ H kvs vk → DR Y ρ H ((kt, t) :: kvs) ((k, v) :: vk)
theorem DR.keys {kvs : List (T × T)} {vk : List (Key × V)} (d : DR Y ρ H kvs vk) : Rps Y ρ H (kvs.map (·.1)) (vk.map fun q => kV q.1) := by
  induction d with
  | nil => exact .nil
  | cons a b _ ih => exact .cons a ih
theorem DR.vals {kvs : List (T × T)} {vk : List (Key × V)} (d : DR Y ρ H kvs vk) : Rps Y ρ H (kvs.map (·.2)) (vk.map (·.2)) := by
  induction d with
  | nil => exact .nil
  | cons a b _ ih => exact .cons b ih
theorem DR.of : ∀ {kvs : List (T × T)} {vk : List (Key × V)}, Rps Y ρ H (kvs.map (·.1)) (vk.map fun q => kV q.1) → Rps Y ρ H (kvs.map (·.2)) (vk.map (·.2)) → DR Y ρ H kvs vk
  | [], [], _, _ => .nil
  | [], _ :: _, a, _ => by cases a
  | _ :: _, [], a, _ => by cases a
  | (_, _) :: _, (_, _) :: _, a, b => by
    cases a with
    | cons a1 a2 => cases b with
      | cons b1 b2 => exact .cons a1 b1 (DR.of a2 b2)
theorem DR.or {kvs : List (T × T)} {vk : List (Key × V)} {a : Addr} (d : DR Y ρ H kvs vk) (e : H a = some (.dK vk)) : OR Y ρ H a (.dct kvs) := ⟨vk, e, d.keys, d.vals⟩
theorem DR.length {kvs : List (T × T)} {vk : List (Key × V)} (d : DR Y ρ H kvs vk) : vk.length = kvs.length := by
  induction d with
  | nil => rfl
  | cons _ _ _ ih => simp [ih]
theorem or_dct {kvs : List (T × T)} {a : Addr} (o : OR Y ρ H a (.dct kvs)) : ∃ vk, H a = some (.dK vk) ∧ DR Y ρ H kvs vk := by
  obtain ⟨vk, e, k, v⟩ := o
  exact ⟨vk, e, .of k v⟩
/-- what stands at a key -/
def getT (kvs : List (T × T)) (k : Key) : Option T := (kvs.find? fun q => decide (keyT q.1 = some k)).map (·.2)
def putT (kvs : List (T × T)) (k : Key) (kt v : T) : List (T × T) :=
  if (kvs.any fun q => decide (keyT q.1 = some k)) = true then kvs.map (fun q => if keyT q.1 = some k then (q.1, v) else q) else kvs ++ [(kt, v)]
theorem key_iff {kt : T} {k j : Key} (r : Rp Y ρ H kt (kV k)) : decide (keyT kt = some j) = decide (k = j) := by
  rw [keyT_of r]
  exact decide_eq_decide.mpr ⟨fun z => Option.some.inj z, fun z => by rw [z]⟩
theorem DR.get {kvs : List (T × T)} {vk : List (Key × V)} (d : DR Y ρ H kvs vk) (j : Key) : (getT kvs j = none ∧ valV vk j = none) ∨ ∃ t v, getT kvs j = some t ∧ valV vk j = some v ∧ Rp Y ρ H t v := by
  induction d with
  | nil => exact .inl ⟨rfl, rfl⟩
  | @cons kt t k v kvs vk a b d ih =>
    by_cases c : k = j
    · refine .inr ⟨t, v, ?_, valV_pos c, b⟩
      have := key_iff (j := j) a
      rw [decide_eq_true c] at this
      simp [getT, List.find?_cons, of_decide_eq_true this]
    · have e := key_iff (j := j) a
      rw [decide_eq_false c] at e
      rw [valV_neg c]
      have : getT ((kt, t) :: kvs) j = getT kvs j := by simp [getT, List.find?_cons, e]
      rw [this]
      exact ih
theorem DR.any {kvs : List (T × T)} {vk : List (Key × V)} (d : DR Y ρ H kvs vk) (j : Key) : (kvs.any fun q => decide (keyT q.1 = some j)) = vk.any fun q => decide (q.1 = j) := by
  induction d with
  | nil => rfl
  | cons a b d ih => simp only [List.any_cons, ih, key_iff a]
theorem DR.snoc {kvs : List (T × T)} {vk : List (Key × V)} (d : DR Y ρ H kvs vk) {kt t : T} {k : Key} {v : V} (a : Rp Y ρ H kt (kV k)) (b : Rp Y ρ H t v) : DR Y ρ H (kvs ++ [(kt, t)]) (vk ++ [(k, v)]) := by
  induction d with
  | nil => exact .cons a b .nil
  | cons a' b' _ ih => exact .cons a' b' ih
theorem DR.swap {kvs : List (T × T)} {vk : List (Key × V)} (d : DR Y ρ H kvs vk) {t : T} {k : Key} {v : V} (b : Rp Y ρ H t v) : DR Y ρ H (kvs.map fun q => if keyT q.1 = some k then (q.1, t) else q) (vk.map fun q => if q.1 = k then (q.1, v) else q) := by
  induction d with
  | nil => exact .nil
  | @cons kt' t' k' v' kvs vk a' b' d ih =>
    have e := key_iff (j := k) a'
    by_cases c : k' = k
    · rw [decide_eq_true c] at e
      simp only [List.map_cons, of_decide_eq_true e, c, if_true]
      exact .cons (c ▸ a') b ih
    · rw [decide_eq_false c] at e
      simp only [List.map_cons, of_decide_eq_false e, c, if_false]
      exact .cons a' b' ih
theorem DR.put {kvs : List (T × T)} {vk : List (Key × V)} (d : DR Y ρ H kvs vk) {kt t : T} {k : Key} {v : V} (a : Rp Y ρ H kt (kV k)) (b : Rp Y ρ H t v) : DR Y ρ H (putT kvs k kt t) (putK vk k v) := by
  unfold putT putK
  rw [d.any k]
  split
  · exact d.swap b
  · exact d.snoc a b
theorem DR.ev {ρ' : Rh} {H' : Hp} (e : EvR ρ H ρ' H') {kvs : List (T × T)} {vk : List (Key × V)} (d : DR Y ρ H kvs vk) : DR Y ρ' H' kvs vk := by
  induction d with
  | nil => exact .nil
  | cons a b _ ih => exact .cons (a.ev e) (b.ev e) ih
end
/-! ### displays -/
abbrev MP := TS_ → VH → Res (List (T × T))
def pNil : MP := fun _ h => .ok [] h
def pCons (fk fv : ME) (g : MP) : MP := fun τ h => match fk τ h with
  | .ok k h1 => (match fv τ h1 with
    | .ok v h2 => (match g τ h2 with
      | .ok r h3 => .ok ((k, v) :: r) h3
      | .bad => .bad)
    | .bad => .bad)
  | .bad => .bad
def mergeT : List (T × T) → List (T × T) → Option (List (T × T))
  | acc, [] => some acc
  | acc, (kt, v) :: r => match keyT kt with
    | some k => mergeT (putT acc k kt v) r
    | none => none
def eDisp (g : MP) : ME := fun τ h => match g τ h with
  | .ok ps h1 => if ps.length ≤ 15 then (match mergeT [] ps with
    | some kvs => .ok (.ref h1.length) (h1 ++ [.dct kvs])
    | none => .bad) else .bad
  | .bad => .bad
section
variable {X : Cx} {Y : Wd}
/-- the pairs, as values -/
def PR (Y : Wd) (ρ : Rh) (H : Hp) (ps : List (T × T)) (vs : List (V × V)) : Prop := Rps Y ρ H (ps.map (·.1)) (vs.map (·.1)) ∧ Rps Y ρ H (ps.map (·.2)) (vs.map (·.2))
def TMP (Y : Wd) (g : MP) (σ : St) (H : Hp) (R : List (V × V) → Hp → Prop) : Prop := ∃ ρ τ h ps h', Go Y ρ H τ σ h ∧ g τ h = .ok ps h' ∧ ∀ ρ' H' vs, Ev ρ H ρ' H' → HR Y ρ' H' h' → PR Y ρ' H' ps vs → R vs H'
structure PD (X : Cx) (Y : Wd) (pos : Pos) (keys : List (Option Expr)) (values : List Expr) (g : MP) : Prop where
  ex : ∃ trs, PPs X pos keys values trs ∧ ∀ σ H R, TMP Y g σ H R → tPairs trs σ H R
theorem xpNil {pos : Pos} : PD X Y pos [] [] pNil := ⟨[], pps_nil, fun σ H R q => by
  obtain ⟨ρ, τ, h, ps, h', G, e, to⟩ := q
  cases e
  exact to ρ H [] .refl G.hr ⟨.nil, .nil⟩⟩
theorem xpCons {pos : Pos} {k v : Expr} {ks : List (Option Expr)} {vs : List Expr} {fk fv : ME} {g : MP} (hk : PE X k (TM Y fk)) (hv : PE X v (TM Y fv)) (hr : PD X Y pos ks vs g) : PD X Y pos (some k :: ks) (v :: vs) (pCons fk fv g) := by
  obtain ⟨trs, pp, i⟩ := hr.ex
  refine ⟨_, pps_cons hk hv pp, ?_⟩
  rintro σ H R ⟨ρ, τ, h, ps, h', G, e, to⟩
  unfold pCons at e
  cases e1 : fk τ h with
  | bad => rw [e1] at e; cases e
  | ok kt h1 =>
    simp only [e1] at e
    cases e2 : fv τ h1 with
    | bad => simp only [e2] at e; cases e
    | ok t h2 =>
      simp only [e2] at e
      cases e3 : g τ h2 with
      | bad => simp only [e3] at e; cases e
      | ok r h3 =>
        simp only [e3] at e
        cases e
        refine ⟨ρ, τ, h, kt, h1, G, e1, ⟨fun ρ1 H1 x ev1 hr1 rx => ⟨ρ1, τ, h1, t, h2, G.ev ev1 hr1, e2, ⟨fun ρ2 H2 y ev2 hr2 ry => i _ _ _ ?_⟩⟩⟩⟩
        refine ⟨ρ2, τ, h2, r, _, (G.ev ev1 hr1).ev ev2 hr2, e3, fun ρ3 H3 zs ev3 hr3 pr => to ρ3 H3 ((x, y) :: zs) ((ev1.trans ev2).trans ev3) hr3 ?_⟩
        exact ⟨.cons (rx.ev (ev2.trans ev3).toEvR) pr.1, .cons (ry.ev ev3.toEvR) pr.2⟩
theorem pairs_keys {ρ : Rh} {H : Hp} : ∀ {ps : List (T × T)} {vs : List (V × V)} {acc kvs : List (T × T)}, PR Y ρ H ps vs → mergeT acc ps = some kvs → ∃ more : List (Key × V), vs = more.map (fun kv => (kV kv.1, kv.2)) ∧ more.length = ps.length ∧
    ∀ vk, DR Y ρ H acc vk → DR Y ρ H kvs (mergeK vk more)
  | [], vs, acc, kvs, pr, e => by
    cases vs with
    | nil => simp only [mergeT, Option.some.injEq] at e; subst e; exact ⟨[], rfl, rfl, fun vk d => d⟩
    | cons _ _ => cases pr.1
  | (kt, t) :: ps, vs, acc, kvs, pr, e => by
    cases vs with
    | nil => cases pr.1
    | cons v vs =>
      obtain ⟨x, y⟩ := v
      obtain ⟨p1, p2⟩ := pr
      cases p1 with
      | cons a p1 => cases p2 with
        | cons b p2 =>
          unfold mergeT at e
          split at e
          · rename_i k ek
            obtain rfl : x = kV k := keyT_ok a ek
            obtain ⟨more, rfl, hl, i⟩ := pairs_keys ⟨p1, p2⟩ e
            exact ⟨(k, y) :: more, rfl, by simp [hl], fun vk d => i _ (d.put a b)⟩
          · cases e
theorem DR.topush {ρ : Rh} {H : Hp} {p : Addr} {kvs : List (T × T)} {vk : List (Key × V)} (d : DR Y (ρ.ban p) H kvs vk) : DR Y (ρ.push p) H kvs vk := by
  induction d with
  | nil => exact .nil
  | cons a b _ ih => exact .cons a.topush b.topush ih
theorem DR.updb {ρ : Rh} {H : Hp} {p : Addr} {o : HO} (hp : p ∈ ρ.bn) {kvs : List (T × T)} {vk : List (Key × V)} (d : DR Y ρ H kvs vk) : DR Y ρ (upd H p o) kvs vk := by
  induction d with
  | nil => exact .nil
  | cons a b _ ih => exact .cons (a.updb hp) (b.updb hp) ih
/-- a written dict, one that may change -/
theorem xDisp {pos : Pos} {keys : List (Option Expr)} {values : List Expr} {g : MP} (hp : PD X Y pos keys values g) (hall : keys.all (·.isSome) = true := by rfl) (hl : keys.length = values.length := by rfl) (h0 : keys ≠ [] := by intro z; cases z) (h15 : keys.length ≤ 15 := by decide) :
    PE X (.Dict keys values pos) (TM Y (eDisp g)) := by
  obtain ⟨trs, pp, i⟩ := hp.ex
  refine pe_imp (pe_disp pp hall hl h0 h15) fun σ H Q q => ?_
  obtain ⟨ρ, τ, h, u, h', G, e, to⟩ := q
  unfold eDisp at e
  split at e
  case h_2 => cases e
  rename_i ps h1 e1
  split at e
  case isFalse => cases e
  rename_i few
  split at e
  case h_2 => cases e
  rename_i kvs em
  cases e
  intro p hp
  refine i _ _ _ ⟨ρ.ban p, τ, h, ps, h1, ⟨⟨G.sl.1, fun i t ht => let ⟨v, a, b⟩ := G.sl.2 i t ht; ⟨v, a, (b.ban hp).updb List.mem_cons_self⟩⟩, G.hr.begin hp⟩, e1, fun ρ' H' vs ev hr pr => ?_⟩
  have mb : p ∈ (ρ.ban p).bn := List.mem_cons_self
  have stays : H' p = some (.dK []) := ev.keep p _ upd_same ((G.hr.begin (o := .dK []) hp).bt p mb).2
  obtain ⟨more, rfl, hl2, dr⟩ := pairs_keys pr em
  refine ⟨stays, more, rfl, by omega, ?_⟩
  obtain ⟨ρ8, rfl, ev8⟩ := ban_split hp (Ev.new (o := .dK []) hp) ev
  have mb8 : p ∈ (ρ8.ban p).bn := List.mem_cons_self
  have d := (dr [] .nil).updb (o := .dK (mergeK [] more)) mb8
  have nb : p ∉ ρ8.bn := fun z => by
    rw [ev8.bn] at z
    exact (G.hr.bt p z).1 hp
  have hr2 := (hr.updb (o := .dK (mergeK [] more)) mb8).topush nb (d.topush.or upd_same)
  refine to.to (ρ8.push p) _ _ ?_ hr2 (.ref ?_)
  · have evf := ev8.updf (o := .dK (mergeK [] more)) hp
    refine .mk' ?_ evf.bn evf.keep evf.there
    obtain ⟨m, em, hm⟩ := evf.more
    refine ⟨m ++ [p], by simp [Rh.push, em], fun b hb => ?_⟩
    rcases List.mem_append.mp hb with z | z
    · exact hm b z
    · rw [List.mem_singleton.mp z]; exact hp
  · have : ρ8.ix.length = h1.length := hr.len
    show (ρ8.ix ++ [p])[h1.length]? = _
    rw [List.getElem?_append_right (by omega), this]
    simp
/-- {} -/
def eDNew : ME := fun τ h => .ok (.ref h.length) (h ++ [.dct []])
theorem xDNew {pos : Pos} : PE X (.Dict [] [] pos) (TM Y eDNew) := pe_imp pe_dnewK fun σ H Q q => by
  obtain ⟨ρ, τ, h, u, h', G, e, to⟩ := q
  cases e
  intro p hp
  refine to.to (ρ.push p) _ _ (Ev.newρ hp) (G.hr.push hp (DR.nil.or upd_same)) (.ref ?_)
  show (ρ.ix ++ [p])[h.length]? = _
  rw [List.getElem?_append_right (by rw [G.hr.len]; exact Nat.le_refl _), G.hr.len]
  simp
theorem room1 {k : Nat} {A : Around} (r : Room k A) : A.units + 1 < cLine := by have := r.un; omega
/-- d[k] -/
def bGetD (a b : T) (h : VH) : Res T := match a with
  | .ref n => (match h[n]?, keyT b with
    | some (.dct kvs), some k => (match getT kvs k with
      | some t => .ok t h
      | none => .bad)
    | _, _ => .bad)
  | _ => .bad
theorem xDGet {o i : Expr} {pos : Pos} {f g : ME} (hu : X.A.units + 1 < cLine) (ho : PE X o (TM Y f)) (hi : PE X i (TM Y g)) (hs : NoSl i := by intro _ _; rfl) : PE X (.Subscript o i pos) (TM Y (eOp bGetD f g)) := pe_imp (pe_dget hu ho hi hs) fun σ H Q q => by
  refine tm_op (r := fun x y H Q => ∃ a v, x = .ref a ∧ DGet H a y (some v) ∧ Q v H) ?_ q
  intro ρ H t1 t2 v1 v2 h t h' Q r1 r2 hr e to
  unfold bGetD at e
  split at e
  · rename_i n
    split at e
    · rename_i kvs k en ek
      split at e
      · rename_i t0 et
        cases e
        cases r1 with
        | @ref _ a ha =>
          obtain ⟨vk, ea, d⟩ := or_dct (hr.at_ n _ a en ha)
          rcases d.get k with ⟨z, _⟩ | ⟨t1, v, z, ev, rv⟩
          · rw [et] at z; cases z
          · rw [et] at z
            cases z
            obtain rfl := keyT_ok r2 ek
            exact ⟨a, v, rfl, ev ▸ DGet.k ea, to.to ρ H _ .refl hr rv⟩
      · cases e
    · cases e
  · cases e
end
end TL

set_option Elab.async false
set_option linter.all false
set_option maxRecDepth 100000
set_option maxHeartbeats 4000000
namespace TL
open PySem PySem.Spec L2 PyProof.Rows
/-! ### calls by keywords alone -/
def permL {α : Type} (ix : List Nat) (l : List α) : List α := ix.filterMap (l[·]?)
theorem Vals.perm {zs : List V} {ws : List Value} (r : Vals zs ws) : ∀ ix : List Nat, Vals (permL ix zs) (permL ix ws)
  | [] => .nil
  | i :: ix => by
    have ih := Vals.perm r ix
    unfold permL at ih ⊢
    simp only [List.filterMap_cons]
    cases e : zs[i]? with
    | none =>
      have := r.none_of e
      rw [this]
      exact ih
    | some z =>
      obtain ⟨u, e1, e2⟩ := r.get e
      rw [e1]
      exact .cons e2 ih
theorem Rps.perm {Y : Wd} {ρ : Rh} {H : Hp} {ts : List T} {vs : List V} (r : Rps Y ρ H ts vs) : ∀ ix : List Nat, Rps Y ρ H (permL ix ts) (permL ix vs)
  | [] => .nil
  | i :: ix => by
    have ih := Rps.perm r ix
    unfold permL at ih ⊢
    simp only [List.filterMap_cons]
    cases e : ts[i]? with
    | none =>
      have : vs[i]? = none := by
        rw [List.getElem?_eq_none_iff] at e ⊢
        rw [r.length]; exact e
      rw [this]
      exact ih
    | some t =>
      obtain ⟨v, e1, e2⟩ := r.get e
      rw [e1]
      exact .cons e2 ih
section
variable {X : Cx} {Y : Wd}
theorem xkNil : PK X [] (TMA Y aNil) := ⟨fun pos pins s σ H Q I q => by
  obtain ⟨ρ, τ, h, t, h', G, e, to⟩ := q
  cases e
  exact pk_nil.run pos pins s σ H Q I (to.to ρ H [] .refl G.hr .nil)⟩
theorem xkCons {nm : Option Str} {e : Expr} {kpos : Pos} {kws : List Keyword} {f : ME} {g : MA} (ha : PE X e (TM Y f)) (hr : PK X kws (TMA Y g)) : PK X (⟨nm, e, kpos⟩ :: kws) (TMA Y (aCons f g)) := ⟨fun pos pins s σ H Q I q => by
  refine (pk_cons ha hr).run pos pins s σ H Q I ?_
  obtain ⟨ρ, τ, h, u, h', G, e, to⟩ := q
  unfold aCons at e
  cases e1 : f τ h with
  | bad => simp only [e1] at e; cases e
  | ok t h1 =>
    simp only [e1] at e
    cases e2 : g τ h1 with
    | bad => simp only [e2] at e; cases e
    | ok ts h2 =>
      simp only [e2] at e
      cases e
      exact ⟨ρ, τ, h, t, h1, G, e1, ⟨fun ρ1 H1 v ev hr1 r => ⟨ρ1, τ, h1, _, _, G.ev ev hr1, e2, ⟨fun ρ2 H2 vs ev2 hr2 rs => to.to ρ2 H2 (v :: vs) (ev.trans ev2) hr2 (.cons (r.ev ev2.toEvR) rs)⟩⟩⟩⟩⟩
/-- the keywords' values, in the parameters' order -/
def aPerm (ix : List Nat) (g : MA) : MA := fun τ h => match g τ h with
  | .ok ts h1 => .ok (permL ix ts) h1
  | .bad => .bad
theorem tma_perm {ix : List Nat} {g : MA} {σ : St} {H : Hp} {R : List V → Hp → Prop} (q : TMA Y (aPerm ix g) σ H R) : TMA Y g σ H fun zs H1 => R (permL ix zs) H1 := by
  obtain ⟨ρ, τ, h, u, h', G, e, to⟩ := q
  unfold aPerm at e
  cases e1 : g τ h with
  | bad => rw [e1] at e; cases e
  | ok ts h1 =>
    rw [e1] at e
    cases e
    exact ⟨ρ, τ, h, ts, _, G, e1, ⟨fun ρ' H' zs ev hr rs => to.to ρ' H' _ ev hr (rs.perm ix)⟩⟩
/-- how keywords are bound where no parameter has a default -/
structure KwB (K : PySem.W.Frag) (fd : FuncData) (ps ks : List Str) (n : Nat) (ix : List Nat) : Prop where
  to : ∀ (s : Shared) (us ws : List Value), K.In s.heap → us.length = n → ws.length = ks.length → BindsTo s fd ⟨us, ks.zip ws⟩ (ps.zip (us ++ permL ix ws))
theorem kwB {K : PySem.W.Frag} {x qual : Str} {params : Arguments} {body : List Stmt} {scope : Scope} {kws : List (Str × V)} {f : Addr} {fd : FuncData} {ps ks : List Str} {n : Nat} {ix : List Nat} (F : FunD K x qual params body scope [] kws f fd)
    (h : ∀ (kV doc pm : Value) (an : Option Addr) (cdv ct : Value) (us ws : List Value), us.length = n → ws.length = ks.length → bindArgs (PySem.W.fnOf x qual params body scope .none kV doc pm an cdv ct) ⟨us, ks.zip ws⟩ = pure (ps.zip (us ++ permL ix ws))) : KwB K fd ps ks n ix := by
  obtain ⟨oc, od, dV, kV, doc, pm, an, cdv, ct, osl, rfl, _, _, hD, _⟩ := F.ex
  rcases hD with ⟨_, rfl⟩ | ⟨e, _⟩
  · exact ⟨fun s us ws _ l1 l2 => .of_eq (h kV doc pm an cdv ct us ws l1 l2)⟩
  · exact absurd rfl e
theorem xCallKw {k : Nat} {f : Addr} {fd : FuncData} {ps ks : List Str} {ix : List Nat} {m : List T → VH → Res T} {x : Str} {p pos : Pos} {kws : List Keyword} {g : MA} (F : FnOk X.prog X.w X.K X.mg X.base CX0 k f fd ps (spM Y m)) (hr : Room k X.A) (hg : Gl X x) (hm : X.mg x = some (.ref f)) (kp : PySem.W.keepIn X.K (.ref f) = true)
    (hb : KwB X.K fd ps ks 0 ix) (ha : PK X kws (TMA Y g)) (hl : kws.length = ks.length := by rfl) (hall : (backToKw pos (keywordEach kws X.env)).all (·.1.isSome) = true := by rfl) (hks : (backToKw pos (keywordEach kws X.env)).filterMap (·.1) = ks := by rfl)
    (hdb : (x == ("__debug__" : Str)) = false := by decide) (hpl : ((backTo pos (starEach [] X.env)).any (·.1) || (backToKw pos (keywordEach kws X.env)).any (·.1.isNone)) = false := by rfl) (hn : ∀ σ H R, TMA Y g σ H R → TMA Y g σ H fun vs H' => vs.length = ks.length ∧ R vs H') :
    PE X (.Call (.Name x p) [] kws pos) (TM Y (eCall m (aPerm ix g))) := by
  constructor
  intro pins s σ H Q I q
  have vals := ha.run pos pins s σ H _ I (hn _ _ _ (tma_perm (tm_call (ct_sp (m := m) E0) q)))
  refine wpAny_Call_Name_kw (ld_glob I hg hm (PySem.W.callWith_KW0 (h₀ := X.base) I.mod.kin kp hall (thn vals ?_) hpl) hdb)
  rintro ws s1 ⟨zs, H1, J, r, nz, sp⟩
  rw [hks]
  have rp := Vals.perm r ix
  have bd := hb.to s1 [] ws J.kIn rfl (r.length.symm.trans nz)
  refine ⟨J.kIn, wpAny_call (codeAny_mono (F.run X.A X.stack s1 H1 _ _ (permL ix zs) Q E0 hr J.env0 bd rp sp) ?_)⟩
  intro res s2 z
  match res, z with
  | .ok (.ret u), z => exact J.after z
  | .error v, z => exact z.elim
/-- how many values an argument list gives -/
theorem tma_len {g : MA} {n : Nat} (hg : ∀ τ h ts h', g τ h = .ok ts h' → ts.length = n) : ∀ σ H R, TMA Y g σ H R → TMA Y g σ H fun vs H' => vs.length = n ∧ R vs H' := by
  rintro σ H R ⟨ρ, τ, h, ts, h', G, e, to⟩
  exact ⟨ρ, τ, h, ts, h', G, e, ⟨fun ρ' H' vs ev hr rs => ⟨by rw [rs.length]; exact hg τ h ts h' e, to.to ρ' H' vs ev hr rs⟩⟩⟩
theorem len_nil : ∀ (τ : TS_) (h : VH) (ts : List T) (h' : VH), aNil τ h = .ok ts h' → ts.length = 0 := by
  intro τ h ts h' e; cases e; rfl
theorem len_cons {f : ME} {g : MA} {n : Nat} (hg : ∀ (τ : TS_) (h : VH) (ts : List T) (h' : VH), g τ h = .ok ts h' → ts.length = n) : ∀ (τ : TS_) (h : VH) (ts : List T) (h' : VH), aCons f g τ h = .ok ts h' → ts.length = n + 1 := by
  intro τ h ts h' e
  unfold aCons at e
  cases e1 : f τ h with
  | bad => simp only [e1] at e; cases e
  | ok t h1 =>
    simp only [e1] at e
    cases e2 : g τ h1 with
    | bad => simp only [e2] at e; cases e
    | ok us h2 => simp only [e2] at e; cases e; simp [hg _ _ _ _ e2]
/-! ### D.get(k), D a dict of the module -/
def eGetK (kvs : List (Str × T)) (f : ME) : ME := fun τ h => match f τ h with
  | .ok (.str z) h1 => .ok ((kvs.lookup z).getD .non) h1
  | _ => .bad
theorem xGetK {b : Expr} {x : Str} {f : ME} {apos cpos p : Pos} {d : Addr} {kvs : List (Str × T)} (hK : X.K = Y.K) (D : KD Y X.w d kvs) (hg : Gl X x) (hm : X.mg x = some (.ref d)) (hb : PE X b (TM Y f)) (m : M1 X (.Name x p) "get" apos b cpos := by exact ⟨rfl, rfl, rfl, rfl⟩) (hd : (x == ("__debug__" : Str)) = false := by decide) :
    PE X (.Call (.Attribute (.Name x p) "get" apos) [b] [] cpos) (TM Y (eGetK kvs f)) := by
  constructor
  rintro pins s σ H Q I ⟨ρ, τ, h, u, h', G, e, to⟩
  obtain ⟨es, n, kd, _⟩ := D.kd
  rw [← hK] at kd
  unfold eGetK at e
  split at e
  case h_2 => cases e
  rename_i z h1 e1
  cases e
  have name := (pe_glob (pos := p) hg hm (v := .ref d) rfl hd).run pins s σ H (fun v H' => v = .ref d ∧ H' = H) I ⟨rfl, rfl⟩
  refine wpAny_Call_method m.base m.few m.line PySem.F.plainAttrs_dict PySem.F.slot_dict_get PySem.F.type_dict_get (thn name ?_)
  rintro u s1 ⟨v, H1, I1, ru, rfl, rfl⟩
  obtain rfl : u = Value.ref d := ru
  have mo := PySem.W.mapOf_K (prog := X.prog) (w := X.w) I1.kIn kd.at_ kd.lit
  refine ⟨mo.typeIs, fun c q => by cases q; exact ⟨_, I1.kIn _ _ kd.at_, rfl⟩, ?_⟩
  rw [m.trees]
  refine Calls.callWith_builtin rfl (Calls.evalArgs_plain (Calls.spliced_cons (thn (hb.run pins s1 σ H1 _ I1 ⟨ρ, τ, h, .str z, _, G, e1, ⟨fun ρ2 H2 v2 ev hr r => (⟨z, .ref d, ?_⟩ : ∃ z' d', v2 = V.str z' ∧ d' = V.ref d ∧ ∀ w, (∀ u', PySem.W.nsIn X.K d z' = some (some u') → RelV w u') → (PySem.W.nsIn X.K d z' = some none → w = .non) → Q w H2)⟩⟩) ?_)))
  · cases r
    refine ⟨rfl, rfl, fun w h1 h2 => to.to ρ2 H2 _ ev hr ?_⟩
    cases ek : kvs.lookup z with
    | none =>
      rw [h2 (by rw [hK]; exact D.miss z ek)]
      exact .non
    | some t =>
      obtain ⟨u', v', n1, n2, n3⟩ := D.val z t ek
      have n4 := h1 u' (by rw [hK]; exact n1)
      have : w = v' := RelV.inj n4 n2
      rw [this]
      exact n3 ρ2 H2
  · rintro iv s2 ⟨y, H2, I2, ry, z', d', rfl, rfl, fin⟩
    obtain ⟨t, rfl⟩ := ry
    refine Calls.spliced_nil ?_
    have mo := PySem.W.mapOf_K (prog := X.prog) (w := X.w) I2.kIn kd.at_ kd.lit
    refine call_meetsIn PySem.F.slot_dict_get mo.typeIs PySem.F.entry_dict_get (PySem.F.args_dict_get_2 _ _) (meets_dict_get (strKind X.prog X.w) d (strKind_is X.prog X.w z' t) kd.low) ⟨_, mo, ?_⟩
    have J := I2.tok (s2.toks + 1)
    cases ek : kvs.lookup z' with
    | none =>
      have e3 : PySem.W.nsIn X.K d z' = some none := by rw [hK]; exact D.miss z' ek
      rw [PySem.W.find_K kd.at_ e3]
      exact ⟨.non, H2, J, rfl, fin .non (fun u' q => by rw [e3] at q; cases q) fun _ => rfl⟩
    | some t' =>
      obtain ⟨u', v', n1, n2, n3⟩ := D.val z' t' ek
      have e3 : PySem.W.nsIn X.K d z' = some (some u') := by rw [hK]; exact n1
      rw [PySem.W.find_K kd.at_ e3]
      exact ⟨v', H2, J, n2, fin v' (fun u2 q => by rw [e3] at q; cases q; exact n2) fun q => by rw [e3] at q; cases q⟩
/-! ### list(range(..)) -/
def mRg1 (f : ME) : MA := fun τ h => match f τ h with
  | .ok (.int j) h1 => if -1000000000 ≤ j ∧ j ≤ 16777216 then .ok (rangeT 0 j.toNat) h1 else .bad
  | _ => .bad
def mRg2 (f g : ME) : MA := fun τ h => match f τ h with
  | .ok (.int i) h1 => (match g τ h1 with
    | .ok (.int j) h2 => if (-1000000000 ≤ i ∧ i ≤ 1000000000 ∧ -1000000000 ≤ j ∧ j ≤ 1000000000) ∧ (j - i).toNat ≤ 16777216 then .ok (rangeT i (j - i).toNat) h2 else .bad
    | _ => .bad)
  | _ => .bad
theorem rg_rps {ρ : Rh} {H : Hp} {a b : Int} : Rps Y ρ H (rangeT a (b - a).toNat) (rgV a b) := by
  unfold rangeT rgV
  generalize (List.range (b - a).toNat) = l
  induction l with
  | nil => exact .nil
  | cons x l ih => exact .cons (.int _) ih
theorem rg_size {a b : Int} (h : (b - a).toNat ≤ 16777216) : (rgV a b).length ≤ sizeLine := by rw [rgV_length, sizeLine_eq]; exact h
theorem xListRg1 {a : Expr} {f : ME} {p p2 pos pos2 : Pos} (hc : X.calm = true) (hg : Gl X "list") (hm : X.mg "list" = none) (hg2 : Gl X "range") (hm2 : X.mg "range" = none) (ha : PE X a (TM Y f)) (na : starEach [a] X.env = (false, eval a X.env) :: starEach [] X.env := by rfl)
    (nb : starEach [.Call (.Name "range" p2) [a] [] pos2] X.env = (false, eval (.Call (.Name "range" p2) [a] [] pos2) X.env) :: starEach [] X.env := by rfl) : PE X (.Call (.Name "list" p) [.Call (.Name "range" p2) [a] [] pos2] [] pos) (TMF Y (mRg1 f)) :=
  pe_imp (pe_listRg hc hg hm (prg_1 hg2 hm2 ha na) nb) fun σ H Q q => by
    obtain ⟨ρ, τ, h, u, h', G, e, to⟩ := q
    unfold mRg1 at e
    split at e
    · rename_i j h1 e1
      split at e
      · rename_i hz
        cases e
        refine ⟨ρ, τ, h, _, _, G, e1, ⟨fun ρ1 H1 v ev hr r => ?_⟩⟩
        cases r
        have sz : (j - 0).toNat ≤ 16777216 := by omega
        refine ⟨j, rfl, ⟨by omega, by omega, by omega, by omega, by omega⟩, fun D hD => ?_⟩
        have rs : Rps Y ρ1 H1 (rangeT 0 j.toNat) (rgV 0 j) := by have z := rg_rps (Y := Y) (ρ := ρ1) (H := H1) (a := 0) (b := j); rw [Int.sub_zero] at z; exact z
        obtain ⟨n1, n2, n3, n4⟩ := newL hr rs (rg_size sz) hD
        exact to ρ1 _ D _ (ev.trans (Ev.new hD)) n1 (ev.fresh hD) n2 n3 n4
      · cases e
    · cases e
theorem xListRg2 {a b : Expr} {f g : ME} {p p2 pos pos2 : Pos} (hc : X.calm = true) (hg : Gl X "list") (hm : X.mg "list" = none) (hg2 : Gl X "range") (hm2 : X.mg "range" = none) (ha : PE X a (TM Y f)) (hb : PE X b (TM Y g)) (na : starEach [a, b] X.env = (false, eval a X.env) :: starEach [b] X.env := by rfl)
    (nb : starEach [b] X.env = (false, eval b X.env) :: starEach [] X.env := by rfl) (hp : (backTo pos2 (starEach [b] X.env)).any (·.1) = false := by rfl)
    (nc : starEach [.Call (.Name "range" p2) [a, b] [] pos2] X.env = (false, eval (.Call (.Name "range" p2) [a, b] [] pos2) X.env) :: starEach [] X.env := by rfl) : PE X (.Call (.Name "list" p) [.Call (.Name "range" p2) [a, b] [] pos2] [] pos) (TMF Y (mRg2 f g)) :=
  pe_imp (pe_listRg hc hg hm (prg_2 hg2 hm2 ha hb na nb hp) nc) fun σ H Q q => by
    obtain ⟨ρ, τ, h, u, h', G, e, to⟩ := q
    unfold mRg2 at e
    split at e
    · rename_i i h1 e1
      split at e
      · rename_i j h2 e2
        split at e
        · rename_i hz
          cases e
          refine ⟨ρ, τ, h, _, _, G, e1, ⟨fun ρ1 H1 v ev hr r => ⟨ρ1, τ, h1, _, _, G.ev ev hr, e2, ⟨fun ρ2 H2 w ev2 hr2 r2 => ?_⟩⟩⟩⟩
          cases r
          cases r2
          refine ⟨i, j, rfl, rfl, ⟨by omega, by omega, by omega, by omega, by omega⟩, fun D hD => ?_⟩
          obtain ⟨n1, n2, n3, n4⟩ := newL hr2 (rg_rps (a := i) (b := j)) (rg_size hz.2) hD
          exact to ρ2 _ D _ ((ev.trans ev2).trans (Ev.new hD)) n1 ((ev.trans ev2).fresh hD) n2 n3 n4
        · cases e
      · cases e
    · cases e
end
end TL

set_option Elab.async false
set_option linter.all false
set_option maxRecDepth 100000
set_option maxHeartbeats 4000000
namespace TL
open PySem PySem.Spec L2
section
variable {X : Cx} {Y : Wd}
/-! ### a text so many times -/
def timesS (z : Str) (k : Nat) : Str := ⟨(List.replicate k z.cps).foldl (· ++ ·) #[]⟩
def rMulS : R2 := fun x y H Q => ∃ (z : Str) (k : Int), x = .str z ∧ y = .int k ∧ 2 ≤ k ∧ k ≤ 1000 ∧ 0 < z.length ∧ z.length * k.toNat ≤ 1000000 ∧ (timesS z k.toNat).length ≤ 1000000 ∧ Q (.str (timesS z k.toNat)) H
theorem op_mulS : OpR X (binaryOp .Mult) rMulS := by
  rintro pins s σ H x y v u Q I rx ry ⟨z, k, rfl, rfl, k2, k3, z0, zk, sz, q⟩
  obtain ⟨t, rfl⟩ := rx
  obtain ⟨t', rfl⟩ := ry
  have big : ¬ k < 1 := by omega
  have f1 : (k == 1 || z.length == 0) = false := by
    rw [Bool.or_eq_false_iff]
    exact ⟨beq_eq_false_iff_ne.mpr (by omega), beq_eq_false_iff_ne.mpr (by omega)⟩
  refine PySem.P.mul_str ?_ (fun _ _ => ?_) (fun _ _ => ?_) ?_
  · rw [decide_eq_false (by omega), decide_eq_false (by omega)]
    rfl
  · have h1 : (z.length : Int) ≤ 1000000 := by
      have : z.length * 1 ≤ z.length * k.toNat := Nat.mul_le_mul_left _ (by omega)
      omega
    have h2 : (1000000 : Int) ≤ (2 ^ 63 - 1) / k := by
      rw [Int.le_ediv_iff_mul_le (by omega)]
      omega
    omega
  · exact decide_eq_false (by rw [sizeLine_eq]; omega)
  · rw [if_neg big, if_neg (by rw [f1]; exact Bool.false_ne_true)]
    exact ⟨by rw [sizeLine_eq]; exact Nat.le_trans sz (by omega), .str (timesS z k.toNat), H, I.tok _, ⟨_, rfl⟩, q⟩
def bMulS (a b : T) (h : VH) : Res T := match a, b with
  | .str z, .int k => if ((2 ≤ k ∧ k ≤ 1000) ∧ 0 < z.length) ∧ (z.length * k.toNat ≤ 1000000 ∧ (timesS z k.toNat).length ≤ 1000000) then .ok (.str (timesS z k.toNat)) h else .bad
  | _, _ => .bad
theorem ot_mulS : OT Y rMulS bMulS := fun ρ H t1 t2 v1 v2 h t h' Q r1 r2 hr e to => by
  unfold bMulS at e
  split at e
  · split at e
    · rename_i z k c
      cases e
      cases r1
      cases r2
      exact ⟨z, k, rfl, rfl, c.1.1.1, c.1.1.2, c.1.2, c.2.1, c.2.2, to.to ρ H _ .refl hr (.str c.2.2)⟩
    · cases e
  · cases e
end
end TL

set_option Elab.async false
set_option linter.all false
set_option maxRecDepth 100000
set_option maxHeartbeats 4000000
namespace TL
open PySem PySem.Spec L2
/-! ### how long a repr is at most -/
mutual
def wide : PyData → Nat
  | .none => 4
  | .bool _ => 5
  | .int i => i.natAbs.log2 + 2
  | .str x => (reprText x).length
  | .list xs => wides xs + 2
  | .tuple xs => wides xs + 3
  | .dict _ => 0
def wides : List PyData → Nat
  | [] => 0
  | x :: xs => wide x + 2 + wides xs
end
def lens (ts : List Str) : Nat := (ts.map fun t => t.length + 2).sum
theorem textFrom_le : ∀ (ts : List Str) (k : Nat) (acc : Str), (textFrom k acc ts).length ≤ acc.length + lens ts
  | [], k, acc => by simp [textFrom, lens]
  | t :: ts, k, acc => by
    have ih := textFrom_le ts (k + 1) (acc ++ (if k > 0 then ", " else "" : String) ++ t)
    have e : (acc ++ (if k > 0 then ", " else "" : String) ++ t).length ≤ acc.length + 2 + t.length := by
      rw [len_app, len_app]
      have : (Str.ofString (if k > 0 then ", " else "")).length ≤ 2 := by split <;> decide
      omega
    have l : lens (t :: ts) = t.length + 2 + lens ts := by simp [lens]
    rw [l]
    show (textFrom (k + 1) _ ts).length ≤ _
    omega
theorem listText_le (ts : List Str) : (listText ts).length ≤ lens ts + 2 := by
  unfold listText
  rw [len_app]
  have h := textFrom_le ts 0 "["
  have a : (Str.ofString "[").length = 1 := by decide
  have b : (Str.ofString "]").length = 1 := by decide
  omega
theorem join_le : ∀ ts : List Str, (Str.join ", " ts).length ≤ lens ts
  | [] => by decide
  | [x] => by simp [lens, Str.join]
  | x :: y :: r => by
    have ih := join_le (y :: r)
    have l : lens (x :: y :: r) = x.length + 2 + lens (y :: r) := by simp [lens]
    have e : Str.join ", " (x :: y :: r) = x ++ ", " ++ Str.join ", " (y :: r) := rfl
    rw [l, e, len_app, len_app]
    have : ((", " : String) : Str).length = 2 := by decide
    omega
theorem tupleText_le (ts : List Str) : (tupleText ts).length ≤ lens ts + 3 := by
  unfold tupleText
  rw [len_app, len_app]
  have h := join_le ts
  have a : (Str.ofString "(").length = 1 := by decide
  have b : (Str.ofString (if (ts.length == 1) = true then ",)" else ")")).length ≤ 2 := by split <;> decide
  omega
mutual
theorem shown_le : ∀ d : PyData, d.hasDict = false → d.shown.length ≤ wide d
  | .none, _ => by decide
  | .bool true, _ => by decide
  | .bool false, _ => by decide
  | .int i, _ => by
    have := int_text_length_le (a := i) (k := i.natAbs.log2 + 1) (by omega) (by omega)
    simp only [PyData.shown, wide]
    rw [ofString_length]
    omega
  | .str x, _ => by simp only [PyData.shown, wide]; exact Nat.le_refl _
  | .list xs, h => by
    have := shownAll_le xs (by simpa [PyData.hasDict] using h)
    have := listText_le (PyData.shownAll xs)
    simp only [PyData.shown, wide]
    omega
  | .tuple xs, h => by
    have := shownAll_le xs (by simpa [PyData.hasDict] using h)
    have := tupleText_le (PyData.shownAll xs)
    simp only [PyData.shown, wide]
    omega
  | .dict kvs, h => by simp [PyData.hasDict] at h
theorem shownAll_le : ∀ ds : List PyData, PyData.hasDictAll ds = false → lens (PyData.shownAll ds) ≤ wides ds
  | [], _ => by simp [PyData.shownAll, lens, wides]
  | d :: ds, h => by
    simp only [PyData.hasDictAll, Bool.or_eq_false_iff] at h
    have a := shown_le d h.1
    have b := shownAll_le ds h.2
    have l : lens (PyData.shownAll (d :: ds)) = d.shown.length + 2 + lens (PyData.shownAll ds) := by simp [lens, PyData.shownAll]
    rw [l]
    simp only [wides]
    omega
end
theorem repr_ok {t : T} {h : VH} {d : PyData} (e : T.dat h 10 t = some d) (s : d.showable = true) (n : d.hasDict = false) (w : wide d ≤ 1000000) : fRepr [t] h = .ok (.str d.shown) h := by
  have := shown_le d n
  simp only [fRepr, e, s, n, Bool.not_false, Bool.and_true, Bool.true_and]
  rw [if_pos (decide_eq_true (by omega))]
theorem eq_strs (x y : Str) (h : VH) : TL.bEq (.str x) (.str y) h = .ok (.bl (x == y)) h := by
  unfold TL.bEq bEqG
  simp only [dat_str, PyData.eqv]
theorem ne_strs (x y : Str) (h : VH) : bNe (.str x) (.str y) h = .ok (.bl (!(x == y))) h := by
  unfold bNe bEqG
  simp only [dat_str, PyData.eqv]
end TL

set_option Elab.async false
set_option linter.all false
set_option maxRecDepth 100000
set_option maxHeartbeats 4000000
namespace TL
open PySem PySem.Spec L2
section
variable {X : Cx} {Y : Wd}
/-! ### k in d, a dict of the def's own -/
def bInDG (neg : Bool) (a b : T) (h : VH) : Res T := match b with
  | .ref n => (match h[n]?, keyT a with
    | some (.dct kvs), some k => .ok (.bl (neg != (getT kvs k).isSome)) h
    | _, _ => .bad)
  | _ => .bad
def bInD := bInDG false
def bNinD := bInDG true
theorem ot_inD (neg : Bool) : OT Y (fun y x H Q => ∃ a o, x = .ref a ∧ DGet H a y o ∧ Q (.bl (neg != o.isSome)) H) (bInDG neg) := by
  intro ρ H t1 t2 v1 v2 h t h' Q r1 r2 hr e to
  unfold bInDG at e
  split at e
  · rename_i n
    split at e
    · rename_i kvs k en ek
      cases e
      cases r2 with
      | @ref _ a ha =>
        obtain ⟨vk, ea, d⟩ := or_dct (hr.at_ n _ a en ha)
        obtain rfl := keyT_ok r1 ek
        refine ⟨a, valV vk k, rfl, DGet.k ea, ?_⟩
        have e : (getT kvs k).isSome = (valV vk k).isSome := by
          rcases d.get k with ⟨z, z2⟩ | ⟨t1, v, z, ev, rv⟩
          · rw [z, z2]; rfl
          · rw [z, ev]; rfl
        rw [← e]
        exact to.to ρ H _ .refl hr (.bl _)
    · cases e
  · cases e
theorem xDIn {o i : Expr} {pos : Pos} {f g : ME} (hu : X.A.units + 1 < cLine) (hi : PE X i (TM Y f)) (ho : PE X o (TM Y g)) (hm : behindInMarks .In o = false := by first | exact nobehind _ (by decide) (by decide) | rfl) : PE X (.Compare i [.In] [o] pos) (TM Y (eOp bInD f g)) :=
  pe_imp (pe_cmp (pc_din hu hi ho) hm) fun σ H Q q => tm_op (ot_inD false) q |> fun z => by
    simp only [Bool.false_bne] at z
    exact z
theorem xDNin {o i : Expr} {pos : Pos} {f g : ME} (hu : X.A.units + 1 < cLine) (hi : PE X i (TM Y f)) (ho : PE X o (TM Y g)) (hm : behindInMarks .NotIn o = false := by first | exact nobehind _ (by decide) (by decide) | rfl) : PE X (.Compare i [.NotIn] [o] pos) (TM Y (eOp bNinD f g)) :=
  pe_imp (pe_cmp (pc_dnotin hu hi ho) hm) fun σ H Q q => tm_op (ot_inD true) q |> fun z => by
    simp only [Bool.true_bne] at z
    exact z
end
end TL

set_option Elab.async false
set_option linter.all false
set_option maxRecDepth 100000
set_option maxHeartbeats 4000000
namespace TL
open PySem PySem.Spec L2
open PySem.W (alike AllAlike Sortable dataLe EachIs)
/-! ### sorted(xs), data of any kind that compares -/
def isTupD : PyData → Bool
  | .tuple (_ :: _) => true
  | _ => false
def noTupD : PyData → Bool
  | .none => false
  | .tuple _ => false
  | _ => true
def sortOk (ds : List PyData) : Bool := (ds.all fun d => ds.all fun e => alike d e) && (ds.all isTupD || ds.all noTupD)
theorem sortOk_ok {ds : List PyData} (h : sortOk ds = true) : AllAlike ds ∧ Sortable ds := by
  unfold sortOk at h
  rw [Bool.and_eq_true] at h
  refine ⟨fun d hd e he => List.all_eq_true.mp (List.all_eq_true.mp h.1 d hd) e he, ?_⟩
  rcases Bool.or_eq_true .. ▸ h.2 with q | q
  · refine .inl fun d hd => ?_
    have := List.all_eq_true.mp q d hd
    unfold isTupD at this
    split at this
    · exact ⟨_, _, rfl⟩
    · cases this
  · refine .inr fun d hd => ?_
    have := List.all_eq_true.mp q d hd
    unfold noTupD at this
    split at this
    · cases this
    · cases this
    · rename_i a b
      exact ⟨a, fun xs e => b xs e⟩
def sortT (ts : List T) (ds : List PyData) : List T := ((ts.zip ds).mergeSort (dataLe false Prod.snd)).map Prod.fst
abbrev Tri := T × V × PyData
def rSortD (K : PySem.W.Frag) : List V → Hp → VK → Prop := fun vs H Q => ∃ (a : Addr) (zs : List Tri), vs = [V.ref a] ∧ SqL K H a (zs.map (·.2.1)) ∧ DpAll K H (zs.map (·.2.1)) (zs.map (·.2.2)) ∧ sortOk (zs.map (·.2.2)) = true ∧ (∀ z ∈ zs, z.2.2.depth ≤ 10) ∧
  ∀ p : Addr, H p = none → Q (.ref p) (upd H p (.lst ((zs.mergeSort (dataLe false (·.2.2))).map (·.2.1))))
theorem each_tri {zs : List Tri} : ∀ {us : List Value}, Vals (zs.map (·.2.1)) us → EachIs (fun u (z : Tri) => RelV z.2.1 u) us zs := by
  induction zs with
  | nil => intro us r; cases r; exact .nil
  | cons z zs ih =>
    intro us r
    cases r with
    | cons a b => exact .cons a (ih b)
theorem tri_vals {zs : List Tri} : ∀ {us : List Value}, EachIs (fun u (z : Tri) => RelV z.2.1 u) us zs → Vals (zs.map (·.2.1)) us := by
  induction zs with
  | nil => intro us r; cases r; exact .nil
  | cons z zs ih =>
    intro us r
    cases r with
    | cons a b => exact .cons a (ih b)
theorem cr_sortedD {X : Cx} (hu : X.A.units + 40 < cLine) : CallR X (.builtin "sorted") (rSortD X.K) := by
  intro pins s σ H vs us Q I r h
  obtain ⟨a, zs, rfl, hs, hd, ok, dp, q⟩ := h
  obtain ⟨its, rv, hl, hz⟩ := I.list hs
  rw [Vals.ref1 r]
  obtain ⟨al, so⟩ := sortOk_ok ok
  obtain ⟨as, rd⟩ := Dp.readsAll I (zs.map (·.2.2)) (zs.map (·.2.1)) its hd rv
  have er := PySem.W.readsAll_each (fun z : Tri => z.2.2) rd
  rw [List.length_map] at hz
  refine PySem.W.sorted_data (R := fun u (z : Tri) => RelV z.2.1 u) (enc := fun z : Tri => z.2.2) hl.isList (each_tri rv) er al so hz (fun b hb => by have := dp b hb; omega) fun out h1 h2 => ?_
  obtain ⟨ep, he'⟩ := PyProof.Rows.sortedAll_at s.heap its out.toArray
  have hlen : ((zs.mergeSort (dataLe false (fun z : Tri => z.2.2))).map (·.2.1)).length ≤ sizeLine := by
    rw [List.length_map, List.length_mergeSort]
    exact hz
  exact ⟨.ref _, upd H (s.heap.objs.size + 1) (.lst ((zs.mergeSort (dataLe false (fun z : Tri => z.2.2))).map (·.2.1))), I.laid (t' := s.toks) (fun _ _ => PyProof.Rows.sortedAll_old) (Nat.le_succ _) ⟨hlen, out, ep, tri_vals h2, he'⟩, rfl, q _ (I.hok.fresh (Nat.le_succ _))⟩
section
variable {X : Cx} {Y : Wd}
def triL : List T → List V → List PyData → List Tri
  | t :: ts, v :: vs, d :: ds => (t, v, d) :: triL ts vs ds
  | _, _, _ => []
theorem triL_ok {ρ : Rh} {H : Hp} : ∀ {ts : List T} {vs : List V} {ds : List PyData}, Rps Y ρ H ts vs → ds.length = ts.length → (triL ts vs ds).map (·.2.1) = vs ∧ (triL ts vs ds).map (·.2.2) = ds ∧ (triL ts vs ds).map (fun z => (z.1, z.2.2)) = ts.zip ds ∧ ∀ z ∈ triL ts vs ds, Rp Y ρ H z.1 z.2.1
  | [], _, ds, r, h => by
    cases r
    cases ds with
    | nil => exact ⟨rfl, rfl, rfl, fun z hz => by cases hz⟩
    | cons _ _ => simp at h
  | t :: ts, _, ds, r, h => by
    cases r with
    | cons a b =>
      cases ds with
      | nil => simp at h
      | cons d ds =>
        obtain ⟨h1, h2, h3, h4⟩ := triL_ok b (by simpa using h)
        refine ⟨by simp [triL, h1], by simp [triL, h2], by simp [triL, h3], fun z hz => ?_⟩
        rcases List.mem_cons.mp hz with rfl | hz
        · exact a
        · exact h4 z hz
theorem tri_rps {ρ : Rh} {H : Hp} : ∀ {zs : List Tri}, (∀ z ∈ zs, Rp Y ρ H z.1 z.2.1) → Rps Y ρ H (zs.map (·.1)) (zs.map (·.2.1))
  | [], _ => .nil
  | z :: zs, h => .cons (h z List.mem_cons_self) (tri_rps fun y hy => h y (List.mem_cons_of_mem _ hy))
theorem sort_tri (zs : List Tri) : (zs.mergeSort (dataLe false (fun z : Tri => z.2.2))).map (fun z => (z.1, z.2.2)) = (zs.map fun z => (z.1, z.2.2)).mergeSort (dataLe false Prod.snd) :=
  List.map_mergeSort fun a _ b _ => rfl
def fSorted (ts : List T) (h : VH) : Res (List T) := match ts with
  | [t] => (match listOf h t with
    | some us => (match us.mapM (T.dat h 10) with
      | some ds => if sortOk ds = true then .ok (sortT us ds) h else .bad
      | none => .bad)
    | none => .bad)
  | _ => .bad
theorem ctf_sorted : CTF Y (rSortD Y.K) fSorted := fun ρ H ts vs h us h' Q r hr e to => by
  unfold fSorted at e
  split at e
  · split at e
    · rename_i us' e1
      split at e
      · rename_i ds e2
        split at e
        · rename_i ok
          cases e
          obtain ⟨v, rfl, rv⟩ := rps_one r
          obtain ⟨a, ws, rfl, hs, hz, rs⟩ := listOf_ok rv hr e1
          obtain ⟨dp, _, dd⟩ := dats_ok (fun t v d => dat_ok hr 10 t v d) rs e2
          have hl : ds.length = us'.length := by
            have z1 := rs.length
            have z2 : ∀ {vs : List V} {ds : List PyData}, DpAll Y.K H vs ds → ds.length = vs.length := by
              intro vs
              induction vs with
              | nil => intro ds q; cases q; rfl
              | cons v vs ih =>
                intro ds q
                cases q with
                | cons _ q => simp [ih q]
            have := z2 dp
            omega
          obtain ⟨h1, h2, h3, h4⟩ := triL_ok rs hl
          refine ⟨a, triL us' ws ds, rfl, by rw [h1]; exact hs, by rw [h1, h2]; exact dp, by rw [h2]; exact ok, fun z hz' => ?_, ?_⟩
          · have m : z.2.2 ∈ ds := by rw [← h2]; exact List.mem_map.mpr ⟨z, hz', rfl⟩
            have key : ∀ {ds : List PyData} {d : PyData}, d ∈ ds → d.depth ≤ PyData.depthAll ds := by
              intro ds
              induction ds with
              | nil => intro d hd; cases hd
              | cons e ds ih =>
                intro d hd
                rw [PyData.depthAll]
                rcases List.mem_cons.mp hd with rfl | hd
                · exact Nat.le_max_left _ _
                · exact Nat.le_trans (ih hd) (Nat.le_max_right _ _)
            exact Nat.le_trans (key m) dd
          · have e3 : sortT us' ds = ((triL us' ws ds).mergeSort (dataLe false (fun z : Tri => z.2.2))).map (·.1) := by
              unfold sortT
              rw [← h3, ← sort_tri, List.map_map]
              rfl
            have rs2 := tri_rps (Y := Y) (ρ := ρ) (H := H) (zs := (triL us' ws ds).mergeSort (dataLe false (fun z : Tri => z.2.2))) fun z hz => h4 z (List.mem_mergeSort.mp hz)
            rw [← e3] at rs2
            refine lay hr rs2 ?_ to
            rw [List.length_map, List.length_mergeSort, ← List.length_map (as := triL us' ws ds) (f := fun z : Tri => z.2.1), h1]
            exact hz
        · cases e
      · cases e
    · cases e
  · cases e
theorem xSorted {k : Nat} {e : Expr} {g : MA} {p pos : Pos} (hK : X.K = Y.K) (hu : Room k X.A) (hg : Gl X "sorted") (hm : X.mg "sorted" = none) (ha : PA X [e] (TMA Y g)) (he : starEach [e] X.env = (false, eval e X.env) :: starEach [] X.env := by rfl) :
    PE X (.Call (.Name "sorted" p) [e] [] pos) (TMF Y (mCall fSorted g)) :=
  xCallBF (r := rSortD Y.K) ctf_sorted (hK ▸ cr_sortedD (by have := room80 hu; omega)) hg hm bt_sorted ha (by decide) (by decide) he
end
end TL

set_option Elab.async false
set_option linter.all false
set_option maxRecDepth 100000
set_option maxHeartbeats 4000000
namespace TL
open PySem PySem.Spec L2
section
variable {X : Cx} {Y : Wd}
/-! ### o.f, f a property of class c -/
def eProp (c : Nat) (m : List T → VH → Res T) (f : ME) : ME := fun τ h => match f τ h with
  | .ok o h1 => (match getI h1 o with
    | some (c', _) => if c' = c then m [o] h1 else .bad
    | none => .bad)
  | .bad => .bad
theorem xProp {c k : Nat} {C p g : Addr} {fd : FuncData} {ps : List Str} {m : List T → VH → Res T} {e : Expr} {f : Str} {t : ME} {pos : Pos} (hK : X.K = Y.K) (hc : Y.cm c = some C) (cl : Cls Y.K C) (hp : PropOf Y.K C f p g) (F : FnOk X.prog X.w X.K X.mg X.base CX0 k g fd ps (spM Y m)) (hr : Room (k + 1) X.A) (hb : Binds X.K fd ps [])
    (he : PE X e (TM Y t)) (hab : attributeBase e f X.env (eval e X.env) = eval e X.env := by rfl) : PE X (.Attribute e f pos) (TM Y (eProp c m t)) := pe_imp (pe_prop he (hK ▸ cl) (hK ▸ hp) F hr hb .nil pass0 hab) fun σ H Q q => by
  obtain ⟨ρ, τ, h, u, h', G, e, to⟩ := q
  unfold eProp at e
  cases e1 : t τ h with
  | bad => simp only [e1] at e; cases e
  | ok o h1 =>
    simp only [e1] at e
    split at e
    · rename_i c' fs eo
      split at e
      · rename_i ec
        subst ec
        refine ⟨ρ, τ, h, o, _, G, e1, ⟨fun ρ1 H1 v ev hr1 r => ?_⟩⟩
        obtain ⟨a, C', dx, vfs, rfl, hc', ha, hm, rs⟩ := getI_ok r hr1 eo
        rw [hc] at hc'
        cases hc'
        exact ⟨a, dx, vfs, rfl, ha, ρ1, [o], h1, u, h', .cons r .nil, hr1, e, ⟨fun ρ' H' v ev' hr' r' => to.to ρ' H' v (ev.trans ev') hr' r'⟩⟩
      · cases e
    · cases e
/-! ### text.count(text) -/
def mCount (o : T) (ts : List T) (h : VH) : Res T := match o, ts with
  | .str a, [.str b] => .ok (.int (Txt.count a b)) h
  | _, _ => .bad
theorem mt_count' : MT Y "str" (fun x xs H Q => ∃ a b, x = .str a ∧ xs = [.str b] ∧ Q (.int (Txt.count a b)) H) mCount := fun ρ0 H0 h0 ρ H o ts vo vs h t h' Q ro hr0 ev r hr e to => by
  unfold mCount at e
  split at e
  · rename_i a b
    cases e
    cases ro with
    | str ha =>
      obtain ⟨v, rfl, rv⟩ := rps_one r
      cases rv with
      | str hb => exact ⟨a, b, rfl, rfl, to.to ρ H _ .refl hr (.int _)⟩
  · cases e
end
end TL

set_option Elab.async false
set_option linter.all false
set_option maxRecDepth 100000
set_option maxHeartbeats 4000000
namespace TL
open PySem PySem.Spec L2
/-! ### sorted(set(xs)), xs tuples of small ints, all alike long -/
theorem eq_of_strict {α : Type} (k : α → Int) : ∀ {l1 l2 : List α}, l1.Pairwise (fun x y => k x < k y) → l2.Pairwise (fun x y => k x < k y) → (∀ x, x ∈ l1 ↔ x ∈ l2) → l1 = l2
  | [], [], _, _, _ => rfl
  | [], b :: l2, _, _, h => by have := (h b).mpr List.mem_cons_self; cases this
  | a :: l1, [], _, _, h => by have := (h a).mp List.mem_cons_self; cases this
  | a :: l1, b :: l2, h1, h2, h => by
    rw [List.pairwise_cons] at h1 h2
    have ab : a = b := by
      rcases List.mem_cons.mp ((h a).mp List.mem_cons_self) with e | m
      · exact e
      · rcases List.mem_cons.mp ((h b).mpr List.mem_cons_self) with e | m'
        · exact e.symm
        · have := h2.1 a m
          have := h1.1 b m'
          omega
    subst ab
    refine congrArg (a :: ·) (eq_of_strict k h1.2 h2.2 fun x => ⟨fun m => ?_, fun m => ?_⟩)
    · rcases List.mem_cons.mp ((h x).mp (List.mem_cons_of_mem _ m)) with e | m'
      · subst e; have := h1.1 x m; omega
      · exact m'
    · rcases List.mem_cons.mp ((h x).mpr (List.mem_cons_of_mem _ m)) with e | m'
      · subst e; have := h2.1 x m; omega
      · exact m'
theorem code_inj {B : Int} : ∀ {a b : List Int}, a.length = b.length → TS.Bd B a → TS.Bd B b → TS.code B a = TS.code B b → a = b
  | [], [], _, _, _, _ => rfl
  | [], _ :: _, h, _, _, _ => by simp at h
  | _ :: _, [], h, _, _, _ => by simp at h
  | d :: r, e :: q, h, ha, hb, hc => by
    have hl : r.length = q.length := by simpa using h
    rcases Int.lt_trichotomy d e with z | z | z
    · have := TS.code_lt hl ha.tail hb.tail z; omega
    · subst z
      have e2 : TS.code B r = TS.code B q := by
        unfold TS.code at hc
        rw [hl] at hc
        omega
      rw [code_inj hl ha.tail hb.tail e2]
    · have := TS.code_lt hl.symm hb.tail ha.tail z; omega
def dedupL : List (List Int) → List (List Int)
  | [] => []
  | x :: r => if x ∈ r then dedupL r else x :: dedupL r
theorem mem_dedup {x : List Int} : ∀ {l : List (List Int)}, x ∈ dedupL l ↔ x ∈ l
  | [] => Iff.rfl
  | y :: r => by
    unfold dedupL
    split
    · rename_i m
      rw [mem_dedup]
      exact ⟨fun h => List.mem_cons_of_mem _ h, fun h => by rcases List.mem_cons.mp h with rfl | h; exact m; exact h⟩
    · rw [List.mem_cons, List.mem_cons, mem_dedup]
theorem nodup_dedup : ∀ {l : List (List Int)}, (dedupL l).Nodup
  | [] => List.nodup_nil
  | y :: r => by
    unfold dedupL
    split
    · exact nodup_dedup
    · rename_i m
      exact List.nodup_cons.mpr ⟨fun h => m (mem_dedup.mp h), nodup_dedup⟩
abbrev BB : Int := 1000000
def codeLe (a b : List Int) : Bool := decide (TS.code BB a ≤ TS.code BB b)
def sortRows (ns : List (List Int)) : List (List Int) := (dedupL ns).mergeSort codeLe
def rowsOk (ns : List (List Int)) : Bool := decide (ns.length < 64) && (decide (1 ≤ (ns.headD [0]).length) && ns.all fun n => decide (n.length = (ns.headD [0]).length) && n.all fun m => decide (0 ≤ m) && decide (m < BB))
theorem rowsOk_ok {ns : List (List Int)} (h : rowsOk ns = true) : ns.length < 64 ∧ ∃ d, 1 ≤ d ∧ ∀ n ∈ ns, n.length = d ∧ TS.Bd BB n := by
  unfold rowsOk at h
  simp only [Bool.and_eq_true, decide_eq_true_eq, List.all_eq_true] at h
  exact ⟨h.1, _, h.2.1, fun n hn => ⟨(h.2.2 n hn).1, fun m hm => (h.2.2 n hn).2 m hm⟩⟩
theorem codeLe_pw (l : List (List Int)) : (l.mergeSort codeLe).Pairwise (fun a b => TS.code BB a ≤ TS.code BB b) := by
  have := List.pairwise_mergeSort (le := codeLe) (fun a b c h1 h2 => by unfold codeLe at *; simp only [decide_eq_true_eq] at *; omega) (fun a b => by unfold codeLe; simp only [Bool.or_eq_true, decide_eq_true_eq]; omega) l
  exact this.imp fun h => of_decide_eq_true h
theorem strict_of {l : List (List Int)} {d : Nat} (hb : ∀ n ∈ l, n.length = d ∧ TS.Bd BB n) (nd : l.Nodup) (pw : l.Pairwise fun a b => TS.code BB a ≤ TS.code BB b) : l.Pairwise fun a b => TS.code BB a < TS.code BB b := by
  have z := List.Pairwise.and nd pw
  refine List.Pairwise.imp_of_mem (fun {a b} ha hb' h => ?_) z
  obtain ⟨ne, le⟩ := h
  rcases Int.lt_or_eq_of_le le with c | c
  · exact c
  · exact (ne (code_inj ((hb a ha).1.trans (hb b hb').1.symm) (hb a ha).2 (hb b hb').2 c)).elim
theorem sort_uniq {ns : List (List Int)} (ok : rowsOk ns = true) {l : List (List Int)} (nd : l.Nodup) (m : ∀ x, x ∈ l ↔ x ∈ ns) (pw : l.Pairwise fun a b => TS.code BB a ≤ TS.code BB b) : l = sortRows ns := by
  obtain ⟨_, d, _, hb⟩ := rowsOk_ok ok
  have ms : ∀ x, x ∈ sortRows ns ↔ x ∈ ns := fun x => by unfold sortRows; rw [List.mem_mergeSort, mem_dedup]
  refine eq_of_strict (TS.code BB) (strict_of (fun n hn => hb n ((m n).mp hn)) nd pw) (strict_of (fun n hn => hb n ((ms n).mp hn)) ?_ (codeLe_pw _)) fun x => (m x).trans (ms x).symm
  unfold sortRows
  exact (List.mergeSort_perm _ _).nodup_iff.mpr nodup_dedup
section
variable {X : Cx} {Y : Wd}
def tupI : T → Option (List Int)
  | .tup ts => intsOf ts
  | _ => none
def rowT' (n : List Int) : T := .tup (n.map T.int)
theorem tups_keys {ρ : Rh} {H : Hp} : ∀ {us : List T} {vs : List V} {ns : List (List Int)}, Rps Y ρ H us vs → us.mapM tupI = some ns → ∃ ks : List (Addr × List Int), vs = ks.map (fun p => V.ref p.1) ∧ ks.map (·.2) = ns ∧ ∀ p ∈ ks, SqT Y.K H p.1 (p.2.map V.int) ∧ Rp Y ρ H (rowT' p.2) (.ref p.1)
  | [], _, ns, r, e => by
    cases r
    simp at e
    subst e
    exact ⟨[], rfl, rfl, fun p hp => by cases hp⟩
  | u :: us, _, ns, r, e => by
    cases r with
    | cons a b =>
      rw [List.mapM_cons] at e
      cases e1 : tupI u with
      | none => rw [e1] at e; simp at e
      | some n =>
        rw [e1] at e
        cases e2 : us.mapM tupI with
        | none => rw [e2] at e; simp at e
        | some ns' =>
          rw [e2] at e
          simp at e
          subst e
          obtain ⟨ks, h1, h2, h3⟩ := tups_keys b e2
          unfold tupI at e1
          split at e1
          · rename_i ts
            have eu : ts = n.map T.int := by
              have key : ∀ {ts : List T} {n : List Int}, intsOf ts = some n → ts = n.map T.int := by
                intro ts
                induction ts with
                | nil => intro n h; simp [intsOf] at h; subst h; rfl
                | cons t ts ih =>
                  intro n h
                  unfold intsOf at h
                  split at h
                  · rename_i h0; cases h0
                  · rename_i i r h0
                    cases h0
                    cases q : intsOf ts with
                    | none => rw [q] at h; cases h
                    | some m =>
                      rw [q] at h
                      cases h
                      rw [ih q]
                      rfl
                  · cases h
              exact key e1
            subst eu
            obtain ⟨ad, ws, rfl, hs, hz, rs⟩ := tupOf_ok (ts := n.map T.int) a rfl
            have ew := intsOf_ok rs e1
            subst ew
            refine ⟨(ad, n) :: ks, by rw [h1]; rfl, by rw [← h2]; rfl, fun p hp => ?_⟩
            rcases List.mem_cons.mp hp with rfl | hp
            · exact ⟨hs, a⟩
            · exact h3 p hp
          · cases e1
def mSortSet (f : ME) : MA := fun τ h => match f τ h with
  | .ok t h1 => (match listOf h1 t with
    | some us => (match us.mapM tupI with
      | some ns => if rowsOk ns = true then .ok ((sortRows ns).map rowT') h1 else .bad
      | none => .bad)
    | none => .bad)
  | .bad => .bad
theorem xSortSet {e : Expr} {f : ME} {p p2 pos pos2 : Pos} {k : Nat} (hK : X.K = Y.K) (hc : X.calm = true) (hu : Room k X.A) (hg : Gl X "sorted") (hm : X.mg "sorted" = none) (hg2 : Gl X "set") (hm2 : X.mg "set" = none) (ha : PE X e (TM Y f))
    (s1 : starEach [e] X.env = (false, eval e X.env) :: starEach [] X.env := by rfl) (s2 : starEach [.Call (.Name "set" p2) [e] [] pos2] X.env = (false, eval (.Call (.Name "set" p2) [e] [] pos2) X.env) :: starEach [] X.env := by rfl) :
    PE X (.Call (.Name "sorted" p) [.Call (.Name "set" p2) [e] [] pos2] [] pos) (TMF Y (mSortSet f)) :=
  pe_imp (pe_callB (cr_sortedT hc) hg hm bt_sorted (pa_cons (pe_callTy (cr_setOfT hc (by have := room80 hu; omega)) hg2 hm2 bt_set (pa_cons ha pa_nil s1) (by decide) (by decide) s1) pa_nil s2) (by decide) (by decide) s2) fun σ H Q q => by
    obtain ⟨ρ, τ, h, us', h', G, e, to⟩ := q
    unfold mSortSet at e
    split at e
    · rename_i t h1 e1
      split at e
      · rename_i us e2
        split at e
        · rename_i ns e3
          split at e
          · rename_i ok
            cases e
            obtain ⟨few, d, d1, hb⟩ := rowsOk_ok ok
            refine ⟨ρ, τ, h, t, _, G, e1, ⟨fun ρ1 H1 v ev hr r => ?_⟩⟩
            obtain ⟨a, ws, rfl, hs, hz, rs⟩ := listOf_ok r hr e2
            obtain ⟨ks, rfl, rfl, hk⟩ := tups_keys rs e3
            rw [hK]
            refine ⟨a, ks, rfl, hs, fun q hq => (hk q hq).1, by rw [List.length_map] at few; exact few, fun D L hD hL1 hL2 => ?_⟩
            have ev2 : Ev ρ1 H1 ρ1 (upd H1 D (SetTO X.prog X.w D L)) := Ev.new hD
            have hr2 := hr.new (o := SetTO X.prog X.w D L) hD
            have rp : ∀ q ∈ ks, Rp Y ρ1 (upd H1 D (SetTO X.prog X.w D L)) (rowT' q.2) (.ref q.1) := fun q hq => (hk q hq).2.ev ev2.toEvR
            have sq : ∀ q ∈ L, SqT Y.K (upd H1 D (SetTO X.prog X.w D L)) q.1 (q.2.map V.int) := fun q hq => by
              obtain ⟨ad, ws, e5, hs5, _, rs5⟩ := tupOf_ok (ts := q.2.map T.int) (rp q (hL1 q hq)) rfl
              cases e5
              have : ws = q.2.map V.int := by
                have e6 : intsOf (q.2.map T.int) = some q.2 := by
                  generalize q.2 = l
                  induction l with
                  | nil => rfl
                  | cons i l ih => show (intsOf (l.map T.int)).map (i :: ·) = _; rw [ih]; rfl
                exact intsOf_ok rs5 e6
              rw [← this]
              exact hs5
            refine ⟨D, L, d, BB, rfl, upd_same, sq, d1, fun q hq => hb q.2 (List.mem_map.mpr ⟨q, hL1 q hq, rfl⟩), fun L' p hp1 nd _ pw hp => ?_⟩
            have e4 : L'.map (·.2) = sortRows (ks.map (·.2)) := by
              refine sort_uniq ok nd (fun x => ⟨fun m => ?_, fun m => ?_⟩) (List.pairwise_map.mpr pw)
              · obtain ⟨q, hq, rfl⟩ := List.mem_map.mp m
                exact List.mem_map.mpr ⟨q, hL1 q (hp1.mem_iff.mp hq), rfl⟩
              · obtain ⟨q, hq, rfl⟩ := List.mem_map.mp m
                obtain ⟨q', hq', e5⟩ := List.mem_map.mp (hL2 q hq)
                exact List.mem_map.mpr ⟨q', hp1.mem_iff.mpr hq', e5⟩
            have rs2 : Rps Y ρ1 (upd H1 D (SetTO X.prog X.w D L)) ((sortRows (ks.map (·.2))).map rowT') (L'.map fun q => V.ref q.1) := by
              rw [← e4, List.map_map]
              have key : ∀ {L' : List (Addr × List Int)}, (∀ q ∈ L', q ∈ ks) → Rps Y ρ1 (upd H1 D (SetTO X.prog X.w D L)) (L'.map (rowT' ∘ (·.2))) (L'.map fun q => V.ref q.1) := by
                intro L'
                induction L' with
                | nil => intro _; exact .nil
                | cons q L' ih => intro h; exact .cons (rp q (h q List.mem_cons_self)) (ih fun x hx => h x (List.mem_cons_of_mem _ hx))
              exact key fun q hq => hL1 q (hp1.mem_iff.mp hq)
            have len : (L'.map fun q => V.ref q.1).length ≤ sizeLine := by
              have z1 : L'.length = (sortRows (ks.map (·.2))).length := by rw [← e4, List.length_map]
              have z2 : (sortRows (ks.map (·.2))).length ≤ (ks.map (·.2)).length := by
                unfold sortRows
                rw [List.length_mergeSort]
                generalize (ks.map (·.2)) = l
                induction l with
                | nil => exact Nat.le_refl _
                | cons x l ih =>
                  unfold dedupL
                  split
                  · simp only [List.length_cons]; omega
                  · simp only [List.length_cons]; omega
              rw [List.length_map, sizeLine_eq]
              omega
            obtain ⟨n1, n2, n3, n4⟩ := newL hr2 rs2 len hp
            exact to ρ1 _ p _ ((ev.trans ev2).trans (Ev.new hp)) n1 ((ev.trans ev2).fresh hp) n2 n3 n4
          · cases e
        · cases e
      · cases e
    · cases e
end
end TL

set_option Elab.async false
set_option linter.all false
set_option maxRecDepth 100000
set_option maxHeartbeats 4000000
namespace TL
open PySem PySem.Spec L2
/-! ### the getters of properties: the head's hook, widened by them -/
def pAd (K : PySem.W.Frag) (C f : Str) : Addr := He.ma K (He.ga K C) f
def gAd (K : PySem.W.Frag) (C f : Str) : Addr := match PySem.W.recIn K (pAd K C f) "property" with
  | some (.ref g :: _) => g
  | _ => 0
structure PrD where
  cls : Str
  f : Str
  qual : Str
  params : Arguments
  body : List Stmt
  scope : Scope
abbrev FnV : Type := Option (Str × Str × Arguments × FuncBody × Scope × Addr × List (Str × Addr) × Addr)
def prW (K : PySem.W.Frag) (d : PrD) : FnV := match K.lookup (gAd K d.cls d.f) with
  | some ⟨_, _, .func q, _⟩ => some (q.name, q.qualname, q.params, q.body, q.scope, q.globals, q.closure, q.builtins)
  | _ => none
def PrD.val (d : PrD) : FnV := some (d.f, d.qual, d.params, .stmts d.body, d.scope, mainGlobals, [], builtinsNs)
/-- what is asked of the function at the getter's address -/
def gfB (K : PySem.W.Frag) (qual : Str) (g : Addr) : Bool := match K.lookup g with
  | some ⟨_, _, .func q, _⟩ => PySem.W.codeIn K q.code qual && (He.dflB K q.defaults [] && He.kwdB K q.kwdefaults [])
  | _ => false
def firstRef : Option (List Value) → Option Addr
  | some (.ref g :: _) => some g
  | _ => none
def prB (K : PySem.W.Frag) (d : PrD) : Bool :=
  PySem.W.keepIn K (.ref (gAd K d.cls d.f)) && (gfB K d.qual (gAd K d.cls d.f) &&
  (He.eqO (PySem.W.findIn K (.ref (He.ga K d.cls)) d.f) (some (some (.ref (pAd K d.cls d.f)))) &&
  (He.eqO (PySem.W.specialIn K (.ref (pAd K d.cls d.f)) "__get__") (some (some (.builtin "property.__get__"))) &&
  (decide (PySem.W.takesIn K (.ref (pAd K d.cls d.f)) = some true) &&
  decide (firstRef (PySem.W.recIn K (pAd K d.cls d.f) "property") = some (gAd K d.cls d.f))))))
theorem pr_ok {K : PySem.W.Frag} {d : PrD} (e : prW K d = d.val) (b : prB K d = true) : (∃ fd, FunD K d.f d.qual d.params d.body d.scope [] [] (gAd K d.cls d.f) fd) ∧ PropOf K (He.ga K d.cls) d.f (pAd K d.cls d.f) (gAd K d.cls d.f) := by
  unfold prB at b
  simp only [Bool.and_eq_true, decide_eq_true_eq] at b
  obtain ⟨kp, gf, b1, b2, b3, b4⟩ := b
  refine ⟨?_, He.eqO_ok b1, He.eqO_ok b2, b3, ?_⟩
  · obtain ⟨g, hg⟩ : ∃ g, g = gAd K d.cls d.f := ⟨_, rfl⟩
    unfold prW at e
    rw [← hg] at kp gf e ⊢
    unfold gfB at gf
    split at gf
    · rename_i oc od q osl lk
      simp only [lk] at e
      rw [Bool.and_eq_true, Bool.and_eq_true] at gf
      obtain ⟨cd, df, kd⟩ := gf
      rcases q with ⟨x, ql, pa, bo, sc, gl, cl, dV, kV, doc, pm, an, co, ct, bu⟩
      simp only [PrD.val, Option.some.injEq, Prod.mk.injEq] at e
      obtain ⟨rfl, rfl, rfl, rfl, rfl, rfl, rfl, rfl⟩ := e
      exact ⟨_, ⟨oc, od, dV, kV, doc, pm, an, co, ct, osl, rfl, lk, cd, He.dflB_ok df, He.kwdB_ok kd⟩, kp⟩
    · cases gf
  · unfold firstRef at b4
    split at b4
    · rename_i g' rest q
      cases b4
      exact ⟨rest, q⟩
    · cases b4
/-- the hook -/
def obsP (n : Nat) (fa : List He.Fa) (fn : List He.DefD) (ts : List He.Tab) (tf : List He.Defn) (ex : PySem.W.Frag → Bool) (ps : List PrD) (g : Addr → Option Obj) : He.AlX × List FnV := (He.obsX n fa fn ts tf ex g, ps.map (prW (He.frT g (He.asD g n))))
def hookP (n : Nat) (fa : List He.Fa) (fn : List He.DefD) (ts : List He.Tab) (tf : List He.Defn) (ex : PySem.W.Frag → Bool) (ps : List PrD) : PySem.W.Hook where
  α := He.AlX × List FnV
  obs := fun s => obsP n fa fn ts tf ex ps s.heap.get?
  val := fun w => (He.valX fn ts w, ps.map PrD.val)
  says := fun w h => ∃ K : PySem.W.Frag, K.In h ∧ He.SaysX fa fn ts tf ex w h K ∧ ps.map (prW K) = ps.map PrD.val
  of := fun _ _ e => ⟨_, He.frT_in, He.saysX_of (congrArg Prod.fst e), congrArg Prod.snd e⟩
  keeps := fun _ _ _ ⟨K, i, c, q⟩ k => ⟨K, i.keeps k, ⟨c.t, c.more, c.hd, c.out, fun p hp => k _ _ (c.empty p hp)⟩, q⟩
theorem obsP_eq {n : Nat} {fa : List He.Fa} {fn : List He.DefD} {ts : List He.Tab} {tf : List He.Defn} {ex : PySem.W.Frag → Bool} {ps : List PrD} {g : Addr → Option Obj} {s : Shared} (h : ∀ a, g a = s.heap.get? a) : obsP n fa fn ts tf ex ps g = (hookP n fa fn ts tf ex ps).obs s := by
  obtain rfl : g = s.heap.get? := funext h
  rfl
theorem pr_at {K : PySem.W.Frag} {ps : List PrD} (h : ps.map (prW K) = ps.map PrD.val) {i : Nat} {d : PrD} (e : ps[i]? = some d) : prW K d = d.val := by
  have z := congrArg (fun l => l[i]?) h
  simp only [List.getElem?_map, e, Option.map_some] at z
  exact Option.some.inj z
end TL

set_option Elab.async false
set_option linter.all false
set_option maxRecDepth 100000
set_option maxHeartbeats 4000000
namespace TL
open PySem PySem.Spec L2
section
variable {X : Cx} {Y : Wd}
/-! ### x, y = a list -/
def mgLst (n : Nat) (gs : MGs) : MG := fun t τ h => match t with
  | .lst ts => if ts.length = n then gs ts τ h else .bad
  | _ => .bad
theorem xgLst {es : List Expr} {k : Nat} {gs : MGs} {n : Nat} {pos : Pos} (hc : X.calm = true) (hK : X.K = Y.K) (h : PGs X es (TMGs Y gs)) (hn : (assignEach es X.env).length = n := by rfl) (hst : (assignEach es X.env).findIdx? (·.1) = none := by rfl) : PG X (.Tuple es k pos) (TMG Y (mgLst n gs)) :=
  pg_imp (pg_lst hc h hn hst) fun v σ H Q q => by
    obtain ⟨ρ, τ, h, t, τ', h', G, r, e, to⟩ := q
    unfold mgLst at e
    split at e
    · split at e
      · rename_i ts hl
        obtain ⟨a, vs, rfl, sq, _, rs⟩ := listOf_ok r G.hr (ts := ts) rfl
        exact ⟨a, vs, rfl, by rw [hK]; exact sq, by rw [rs.length]; exact hl, ρ, τ, h, ts, τ', h', G, rs, e, to⟩
      · cases e
    · cases e
end
end TL

set_option Elab.async false
set_option linter.all false
set_option maxRecDepth 100000
set_option maxHeartbeats 4000000
/-! enumerate over a tuple -/
namespace TL
open PySem PySem.Spec L2 PyProof.Rows
open AutoSeq1 (wpAny_loadPart')
abbrev enumOb (a : Addr) : Obj := { cls := .type "enumerate", data := .fields #[.none, .bool false, .ref a, rawInt 0, .none, .none] }
theorem pure_any {prog : Program} {w : World} {A : Around} {E : Value → Shared → Prop} {s : Shared} {Q : Bool → Shared → Prop} (b : Bool) (q : ∀ b, Q b s) : wpAny (model prog w) A (pure b) Q E s := wpAny_pure (q b)
theorem new_enum {v : Value} {o : Obj} {H : Heap → Prop} (B : Begins v o H) :
    Meets (Builtin.«enumerate.__new__» ⟨[.type "enumerate", v], []⟩) (fun _ R s => H s.heap ∧ R (.ok (.ret (.ref (s.heap.push o).objs.size))) { s with heap := (s.heap.push o).push (enumOb s.heap.objs.size) }) :=
  .of_wp fun prog w A R s ⟨begun, fin⟩ => by
    have walk : ∀ (A' : Around) (E' : Value → Shared → Prop) (Q' : Value → Shared → Prop), Q' (.ref s.heap.objs.size) { s with heap := s.heap.push o } → wpAny (model prog w) A' (pyIter v) Q' E' s := fun A' E' Q' => B.iter prog w A' E' s Q' begun
    have same := sub_enumerate
    wp_walk using walk
    -- whichever way the call was read, there is one item and no start
    refine wpAny_stack_any fun _ => pure_any _ fun way => ?_
    cases way
    all_goals
      wp_walk using walk
      exact ⟨_, rfl, fin⟩
/-- enumerate(v) of whatever begins: its two new cells -/
theorem call_enum {prog : Program} {w : World} {A : Around} {E : Value → Shared → Prop} {s : Shared} {v : Value} {o : Obj} {H : Heap → Prop} {Q : Value → Shared → Prop} (B : Begins v o H) (begun : H s.heap)
    (fin : ∀ k, k.get? (s.heap.objs.size + 1) = some (enumOb s.heap.objs.size) → k.get? s.heap.objs.size = some o → (∀ b p, s.heap.get? b = some p → k.get? b = some p) → Q (.ref (s.heap.objs.size + 1)) { s with heap := k }) :
    wpAny (model prog w) A (call (.type "enumerate") [v]) Q E s := by
  have one : (s.heap.push o).objs.size = s.heap.objs.size + 1 := Heap.size_push ..
  have top : ((s.heap.push o).push (enumOb s.heap.objs.size)).get? (s.heap.objs.size + 1) = some (enumOb s.heap.objs.size) := one ▸ Heap.get?_push_size (s.heap.push o) (o := enumOb s.heap.objs.size) rfl
  have low : ∀ b p, (s.heap.push o).get? b = some p → ((s.heap.push o).push (enumOb s.heap.objs.size)).get? b = some p := fun b p e => Heap.get?_push_of_some _ e
  refine callType_new F.called_enumerate (by decide) (F.typeCall_enumerate_1 _) (F.newCall_enumerate_1 _) (fun obj => F.args_object_init_2 obj _) F.entry_enumerate_new (new_enum B) ⟨begun, ?_⟩
  refine ⟨⟨_, one.symm ▸ top, rfl⟩, ?_⟩
  exact one.symm ▸ fin _ top (low _ _ (Heap.get?_push_size _ B.free)) fun b p e => low b p (Heap.get?_push_of_some _ e)
/-- the pairs of a tuple's items and their places -/
def IteT (K : PySem.W.Frag) (t : Addr) (xs : List V) : It where
  go i H := SqT K H t xs ∧ i < xs.length
  yld i H v H' := ∃ T x, v = .ref T ∧ xs[i]? = some x ∧ H T = none ∧ H' = upd H T (.tup [.int (i : Nat), x])
  stop i H := SqT K H t xs ∧ xs.length ≤ i
/-- where it stands -/
structure AtT (e it t : Addr) (n i : Nat) (h : Heap) : Prop where
  en : ∃ last, IsEnum h e it (i : Int) last
  ti : h.IsTupleIter it t i
  ne : e ≠ it
  n1 : t ≠ it
  n2 : t ≠ e
  le : i ≤ n
section
variable {P : Program} {w : World} {K : PySem.W.Frag} {e it t : Addr}
theorem AtT.there {n i : Nat} {h : Heap} (a : AtT e it t n i h) {b : Addr} (m : b ∈ [e, it]) : ∃ o, h.get? b = some o ∧ ∀ v, o.data ≠ .cell v := by
  rcases List.mem_cons.mp m with rfl | m
  · obtain ⟨l, q⟩ := a.en
    exact ⟨_, q, nofun⟩
  · obtain rfl := List.mem_singleton.mp m
    obtain ⟨o, q, _, d⟩ := a.ti
    exact ⟨o, q, fun v y => by rw [d] at y; cases y⟩
theorem turn_tupE {es : List Expr} {j : Nat} {tp : Pos} {xs : List V} : Turn P w K (.Tuple es j tp) (IteT K t xs) [e, it] e (AtT e it t xs.length) := by
  refine ⟨List.mem_cons_self, fun i h a b m => a.there m, fun i h h' a k => ⟨let ⟨l, q⟩ := a.en; ⟨l, k e List.mem_cons_self _ q⟩, a.ti.at fun o q => k it (List.mem_cons_of_mem _ List.mem_cons_self) o q, a.ne, a.n1, a.n2, a.le⟩, ?item, ?done, fun A i s Q E a h => let ⟨_, q⟩ := a.en; wpAny_pyIter_enum q h⟩
  case item =>
    rintro X rfl rfl rfl calm i pins s σ H E I own a ⟨sq, lt⟩
    obtain ⟨its, rv, T, _⟩ := I.tuple sq
    obtain ⟨l, q⟩ := a.en
    have sz : i < its.toArray.size := by rw [List.size_toArray, ← rv.length]; exact lt
    refine wpAny_pyNext_enum_itemD (Draws.tuple (A := X.A.in1) (I.ok.hd calm) it t a.n1 its.toArray) q ⟨a.ti, T⟩ sz a.ne (by simp [a.ne, a.n2.symm]) fun v h1 tk rg out st1 pr _ same => ⟨_, rfl, ?_⟩
    refine wpAny_letOwnedTupleGo_enum (s := { s with heap := h1, toks := tk + 1 }) out fun h2 q2 but => ?_
    have old : ∀ b ∈ [e, it], b < s.heap.objs.size := fun b m => let ⟨_, z, _⟩ := a.there m; Heap.lt_size z
    have lone : s.heap.objs.size ≠ e := fun z => Nat.lt_irrefl _ (z ▸ old e List.mem_cons_self)
    obtain ⟨x, hx⟩ : ∃ x, xs[i]? = some x := ⟨_, List.getElem?_eq_getElem lt⟩
    obtain ⟨u, hu, ru⟩ := rv.get hx
    have uv : u = v := by
      have : its.toArray[i]? = some u := by simpa using hu
      rw [this] at rg
      exact Option.some.inj rg
    subst uv
    have J := I.turnedNew (t' := tk + 1) (ch := [e, it]) (fun b o m z => by
      rw [but.2 b fun y => m (y ▸ List.mem_cons_self)]
      exact same b o (fun y => m (y ▸ List.mem_cons_self)) (fun y => m (y ▸ List.mem_cons_of_mem _ List.mem_cons_self)) z) own (Nat.le_refl _) (pair_ok (H := H) (i := i) ru ((but.2 _ lone).trans pr))
    refine ⟨.ref s.heap.objs.size, _, J, rfl, ⟨_, x, rfl, hx, I.hok.fresh (Nat.le_refl _), rfl⟩, ⟨⟨u, q2⟩, st1.1.at fun o z => (but.2 it a.ne.symm).trans z, a.ne, a.n1, a.n2, lt⟩, fun b m => (upd_ne (Nat.ne_of_lt (old b m))).trans (own b m).1⟩
  case done =>
    rintro X rfl rfl rfl calm i pins s σ H E I own a ⟨sq, ge⟩
    obtain ⟨its, rv, T, _⟩ := I.tuple sq
    obtain ⟨l, q⟩ := a.en
    have o := own it (List.mem_cons_of_mem _ List.mem_cons_self)
    have full : i = its.toArray.size := by rw [List.size_toArray, ← rv.length]; exact Nat.le_antisymm a.le ge
    have ti := a.ti
    rw [full] at ti
    exact wpAny_pyNext_enum_endD (Draws.tuple (A := X.A.in1) (I.ok.hd calm) it t a.n1 its.toArray) q ⟨ti, T⟩ fun h1 but => ⟨rfl, I.turned (t' := s.toks) (fun b ob m z => but b ob m z) o.1 o.2.1 o.2.2.2.1 o.2.2.2.2.1 o.2.2.2.2.2⟩
end
section
variable {X : Cx} {Y : Wd}
def iEnumTup (K : PySem.W.Frag) (ta : TA) : TI := fun σ H R => ta σ H fun vs H1 => ∃ t xs, vs = [.ref t] ∧ SqT K H1 t xs ∧ R (IteT K t xs) H1
theorem pi_enumTup {e : Expr} {ta : TA} {p pos tpos : Pos} {es : List Expr} {j : Nat} (hg : Gl X "enumerate") (hm : X.mg "enumerate" = none) (ha : PA X [e] ta) (hs : starEach [e] X.env = [(false, eval e X.env)] := by rfl) :
    PI X (.Tuple es j tpos) (.Call (.Name "enumerate" p) [e] [] pos) (iEnumTup X.K ta) := by
  constructor
  intro pins s σ H R I h
  have arg := ha.run pos pins s σ H _ I h
  refine Call_ (ld_blt I hg hm boot_enumerate (PyProof.Rows.callWith_type1 (thn arg ?_) hs rfl))
  rintro us s1 ⟨_, H1, I1, r, t, xs, rfl, sq, q⟩
  rw [Vals.ref1 r]
  obtain ⟨its, rv, T, _⟩ := I1.tuple sq
  obtain ⟨ob, eo, _⟩ := T
  have young := Heap.lt_size eo
  refine call_enum (begins_tuple t its.toArray) ⟨ob, eo, by assumption⟩ fun h1 he at_ more => wpAny_pyIter_enum (show IsEnum h1 (s1.heap.objs.size + 1) s1.heap.objs.size 0 .none from he) ⟨_, [s1.heap.objs.size + 1, s1.heap.objs.size], _, _, H1, rfl, I1.kept (t' := s1.toks) more, turn_tupE (t := t) (xs := xs), ⟨⟨.none, he⟩, ⟨_, at_, rfl, rfl⟩, Nat.succ_ne_self _, Nat.ne_of_lt young, Nat.ne_of_lt (Nat.lt_succ_of_lt young), Nat.zero_le _⟩, fun b m => ?_, q⟩
  have le : s1.heap.objs.size ≤ b := by
    rcases List.mem_cons.mp m with y | y
    · exact y ▸ Nat.le_succ _
    · exact Nat.le_of_eq (List.mem_singleton.mp y).symm
  exact I1.fpOk le (I1.hok.fresh le)
def iEnumTM (g : MA) : MI := fun τ h => match g τ h with
  | .ok [.tup ts] h1 => .ok (fun _ => some (enumT ts)) h1
  | _ => .bad
theorem wk_enumTup {ts : List T} {xs : List V} {t : Addr} {ρ : Rh} {H : Hp} (la : TupAt Y ρ H t xs) (rs : Rps Y ρ H ts xs) : Wk Y (IteT Y.K t xs) (fun _ => some (enumT ts)) ρ H := by
  have len : (enumT ts).length = xs.length := by rw [rs.length]; simp [enumT]
  constructor
  · rintro ρ1 H1 h us i u ev hr ⟨⟩ ei
    unfold enumT at ei
    rw [List.getElem?_mapIdx] at ei
    obtain ⟨z, q, rfl⟩ := Option.map_eq_some_iff.mp ei
    obtain ⟨x, hx, rx⟩ := (rs.ev ev).get q
    refine ⟨⟨(la.ev ev).sq, (List.getElem?_eq_some_iff.mp hx).1⟩, fun v H' y => ?_⟩
    obtain ⟨p, x', rfl, hx', fresh, rfl⟩ := y
    rw [hx] at hx'
    cases hx'
    exact pair_new hr (.int _) rx fresh
  · rintro ρ1 H1 h us i ev hr ⟨⟩ hl
    rw [len] at hl
    exact ⟨(la.ev ev).sq, hl⟩
theorem xiEnumT {e : Expr} {g : MA} {p pos tpos : Pos} {elts : List Expr} {kk : Nat} (hK : X.K = Y.K) (hg : Gl X "enumerate") (hm : X.mg "enumerate" = none) (ha : PA X [e] (TMA Y g)) (hs : starEach [e] X.env = [(false, eval e X.env)] := by rfl) :
    PI X (.Tuple elts kk tpos) (.Call (.Name "enumerate" p) [e] [] pos) (TMI Y (iEnumTM g)) := pi_imp (pi_enumTup hg hm ha hs) fun σ H R q => by
  obtain ⟨ρ, τ, h, rd, h', G, e, to⟩ := q
  unfold iEnumTM at e
  split at e
  · rename_i ts h1 e1
    cases e
    refine ⟨ρ, τ, h, _, _, G, e1, ⟨fun ρ1 H1 vs ev hr r => ?_⟩⟩
    obtain ⟨v, rfl, rv⟩ := rps_one r
    cases rv with
    | tup la rs =>
      rw [hK]
      exact ⟨_, _, rfl, la.sq, to ρ1 H1 _ ev hr (wk_enumTup la rs)⟩
  · cases e
/-! ### // by great numbers -/
def bFdvW := bI (fun _ j => decide (0 < j) && decide (j.natAbs.log2 < 9000)) fun i j => i / j
theorem ot_fdvW : OT Y (rI CDivW fun i j => .int (i / j)) bFdvW := ot_I _ fun i j h => by rw [Bool.and_eq_true] at h; exact ⟨of_decide_eq_true h.1, of_decide_eq_true h.2⟩
end
end TL

set_option Elab.async false
set_option linter.all false
set_option maxRecDepth 100000
set_option maxHeartbeats 4000000
/-! small helps for the plain laws -/
namespace TL
open PySem PySem.Spec L2
section
variable {τ : TS_} {h h1 : VH} {p q : Bool} {c d : MB} {f g k : ME} {b b' : T → T → VH → Res T} {x y z t : T}
theorem hNot (e : c τ h = .ok p h1) : bNot c τ h = .ok (!p) h1 := by unfold bNot; simp only [e]
theorem hOr (e1 : c τ h = .ok p h) (e2 : p = false → d τ h = .ok q h) : bOr c d τ h = .ok (p || q) h := by
  unfold bOr
  rw [e1]
  cases p
  · simp [e2 rfl]
  · rfl
theorem hAnd (e1 : c τ h = .ok p h) (e2 : p = true → d τ h = .ok q h) : bAnd c d τ h = .ok (p && q) h := by
  unfold bAnd
  rw [e1]
  cases p
  · rfl
  · simp [e2 rfl]
theorem hEor (e1 : f τ h = .ok (.bl p) h) (e2 : p = false → g τ h = .ok (.bl q) h) : eOr f g τ h = .ok (.bl (p || q)) h := by
  unfold eOr
  rw [e1]
  cases p
  · simp [e2 rfl]
  · rfl
theorem hEand (e1 : f τ h = .ok (.bl p) h) (e2 : p = true → g τ h = .ok (.bl q) h) : eAnd f g τ h = .ok (.bl (p && q)) h := by
  unfold eAnd
  rw [e1]
  cases p
  · rfl
  · simp [e2 rfl]
theorem hEnot (e1 : f τ h = .ok (.bl p) h) : eNot f τ h = .ok (.bl (!p)) h := by
  unfold eNot
  rw [e1]
theorem hIfT (e : c τ h = .ok true h1) : eIf c f g τ h = f τ h1 := by unfold eIf; rw [e]
theorem hIfF (e : c τ h = .ok false h1) : eIf c f g τ h = g τ h1 := by unfold eIf; rw [e]
theorem hChain (e1 : f τ h = .ok x h) (e2 : g τ h = .ok y h) (e3 : b x y h = .ok (.bl p) h) (e4 : k τ h = .ok z h) (e5 : b' y z h = .ok (.bl q) h) : eChain b b' f g k τ h = .ok (.bl (p && q)) h := by
  unfold eChain
  simp only [e1, e2, e3]
  cases p <;> simp [e4, e5]
theorem hLt (i j : Int) (h : VH) : bLt (.int i) (.int j) h = .ok (.bl (decide (i < j))) h := rfl
theorem hLe (i j : Int) (h : VH) : bLe (.int i) (.int j) h = .ok (.bl (decide (i ≤ j))) h := rfl
theorem hGt (i j : Int) (h : VH) : bGt (.int i) (.int j) h = .ok (.bl (decide (j < i))) h := rfl
theorem hGe (i j : Int) (h : VH) : bGe (.int i) (.int j) h = .ok (.bl (decide (j ≤ i))) h := rfl
theorem hAdd (i j : Int) (h : VH) : bAdd (.int i) (.int j) h = .ok (.int (i + j)) h := rfl
theorem hSub (i j : Int) (h : VH) : bSub (.int i) (.int j) h = .ok (.int (i - j)) h := rfl
theorem hEq (i j : Int) (h : VH) : bEq (.int i) (.int j) h = .ok (.bl (decide (i = j))) h := by
  unfold bEq bEqG
  simp only [dat_int, PyData.eqv]
  by_cases e : i = j
  · simp [e]
  · simp [e]
theorem hNe (i j : Int) (h : VH) : bNe (.int i) (.int j) h = .ok (.bl (!decide (i = j))) h := by
  unfold bNe bEqG
  simp only [dat_int, PyData.eqv]
  by_cases e : i = j
  · simp [e]
  · simp [e]
theorem hAppS {u v : Str} (hl : u.length + v.length ≤ 1000000) : bAdd (.str u) (.str v) h = .ok (.str (u ++ v)) h := by unfold bAdd; exact if_pos hl
theorem hInS (n : Nat) (s : Str) : bInS false ⟨#[n]⟩ s = decide (n ∈ s.cps.toList) := by
  unfold bInS
  rw [PySem.StrLaws.found_one, Bool.false_bne]
theorem hAll {α : Type} (l : List α) (f : α → Bool) (h : VH) : fAll [.lst (l.map fun a => T.bl (f a))] h = .ok (.bl (l.all f)) h := by
  have e : blsOf (l.map fun a => T.bl (f a)) = some (l.map f) := by
    induction l with
    | nil => rfl
    | cons a l ih => show (blsOf (l.map fun a => T.bl (f a))).map (f a :: ·) = _; rw [ih]; rfl
  simp only [fAll, fBls, TL.listOf, e]
  rw [List.all_map]
  rfl
theorem hAny {α : Type} (l : List α) (f : α → Bool) (h : VH) : fAny [.lst (l.map fun a => T.bl (f a))] h = .ok (.bl (l.any f)) h := by
  have e : blsOf (l.map fun a => T.bl (f a)) = some (l.map f) := by
    induction l with
    | nil => rfl
    | cons a l ih => show (blsOf (l.map fun a => T.bl (f a))).map (f a :: ·) = _; rw [ih]; rfl
  simp only [fAny, fBls, TL.listOf, e]
  rw [List.any_map]
  rfl
theorem hLenS {u : Str} (e : f τ h = .ok (.str u) h) : eCall fLen (aCons f aNil) τ h = .ok (.int (u.length : Nat)) h := (call_ok (b := fLen) (cons_ok e rfl)).trans rfl
theorem hLenL {ts : List T} (e : f τ h = .ok (.lst ts) h) : eCall fLen (aCons f aNil) τ h = .ok (.int (ts.length : Nat)) h := (call_ok (b := fLen) (cons_ok e rfl)).trans rfl
theorem hLenT {ts : List T} (e : f τ h = .ok (.tup ts) h) : eCall fLen (aCons f aNil) τ h = .ok (.int (ts.length : Nat)) h := (call_ok (b := fLen) (cons_ok e rfl)).trans rfl
theorem hSplit {u v : Str} {g : ME} (hv : (v.length == 0) = false) (hs : u.length ≤ 100000) (e : f τ h = .ok (.str u) h) (e2 : g τ h = .ok (.str v) h) : eMt "str" mSplit f (aCons g aNil) τ h = .ok (.lst ((Txt.split u v).map T.str)) h := by
  have sh : shortAll (Txt.split u v) = true := by
    unfold shortAll
    rw [List.all_eq_true]
    intro x hx
    have := PyProof.Rows.part_short hx
    exact decide_eq_true (by omega)
  have hz : (Txt.split u v).length ≤ 16777216 := by
    have := PyProof.Rows.split_le u v
    omega
  have tt : tyT h "str" (.str u) = true := by unfold tyT; rfl
  unfold eMt
  simp only [e, tt, if_true, cons_ok e2 (rfl : aNil τ h = .ok [] h), mSplit, hv, hz, sh, and_self]
end
end TL

set_option Elab.async false
set_option linter.all false
set_option maxRecDepth 100000
set_option maxHeartbeats 4000000
namespace TL
open PySem PySem.Spec L2
section
variable {X : Cx} {Y : Wd}
/-! ### a def called in the midst of a built-in -/
theorem call_at {A : Around} {k : Nat} {f : Addr} {fd : FuncData} {ps : List Str} {sp : Sp} {pins : List (Addr × Obj)} {σ : St} {H : Hp} {s : Shared} {Q : VK} {us : List Value} {vs : List V} (F : FnOk X.prog X.w X.K X.mg X.base CX0 k f fd ps sp) (hr : Room k A) (e0 : Env0 X.prog X.w X.K X.mg X.base A X.stack s H) (hb : Binds X.K fd ps [])
    (I : Inv X pins σ H s) (r : Vals vs us) (h : sp vs H Q E0) (E : Value → Shared → Prop) : wpAny (model X.prog X.w) A (call (.ref f) us) (EP X pins σ Q) E s := by
  have hl : us.length = ps.length := by rw [← r.length]; exact F.len _ _ _ _ h
  refine wpAny_call (codeAny_mono (F.run A X.stack s H ⟨us, []⟩ us vs Q E0 hr e0 (by
    have := hb s us I.kIn (by simpa using hl)
    simpa using this) r h) fun r s' hq => ?_)
  cases r with
  | error e => exact False.elim hq
  | ok fl =>
    cases fl with
    | ret w => exact I.after hq
    | next => exact False.elim hq
    | brk => exact False.elim hq
    | cont => exact False.elim hq
/-! ### own == -/
def rEqO (K : PySem.W.Frag) (C : Addr) (sp : Sp) (neg : Bool) : R2 := fun x y H Q => ∃ (a dx : Addr) (fs : List (Str × V)) (u : Value), x = .ref a ∧ H a = some (.ins C dx fs) ∧ TyX K H y u ∧ PySem.W.notFirst K C u = true ∧ sp [x, y] H (fun v H' => ∃ b, v = .bl b ∧ Q (.bl (neg != b)) H') E0
theorem op_eqO {k : Nat} {C f : Addr} {fd : FuncData} {ps : List Str} {sp : Sp} (F : FnOk X.prog X.w X.K X.mg X.base CX0 k f fd ps sp) (hs : PySem.W.findIn X.K (.ref C) "__eq__" = some (some (.ref f))) (hf : PySem.W.isFn X.K (.ref f) = true) (hb : Binds X.K fd ps []) (hr : Room k X.A) : OpR X (compareOp .Eq) (rEqO X.K C sp false) := by
  intro pins s σ H x y v u Q I rx ry h
  obtain ⟨a, dx, fs, t, rfl, ha, ty, nf, hsp⟩ := h
  cases rx
  obtain ⟨mA, J, _⟩ := ins_get I.hok ha
  obtain ⟨od, J, _⟩ := J.look
  obtain ⟨P, Z, p, _⟩ := kit_of I ry ty
  obtain ⟨m, hF⟩ := I.fr
  show wpAny (model X.prog X.w) X.A (richCompare .Eq (.ref a) u) _ _ _
  refine PySem.W.cmp_K (op := .Eq) (tb := t) hr.units0 hF I.ok.mod.kin J (Z.ty _ _ I.kIn p) nf hs hf ?_
  refine wpAny_mono (call_at (us := [.ref a, u]) (vs := [.ref a, y]) F hr I.env0 hb I (.cons rfl (.cons ry .nil)) hsp _) (fun r s' q => ?_) fun _ _ z => z
  obtain ⟨w, H', I', rw', b, rfl, q⟩ := q
  cases rw'
  rw [Bool.false_bne] at q
  exact ⟨.bl b, H', I', rfl, q⟩
end
/-! ### != by an own == -/
section
open PySem.W PySem.Calls PyProof.Rows Builtin
variable {prog : Program} {w : World} {A : Around} {E : Value → Shared → Prop} {s : Shared} {K : Frag} {x C L f : Addr} {h₀ : Heap} {m : Str → Option Value} {ox : Obj} {od : Option Obj} {b tb : Value}
theorem bound_blt {M : Model} {name : Str} {id : String} {args : List Value} {Q : Option Value → Shared → Prop} (X : K.In s.heap) (I : InstAt s.heap x ox C od) (hs : findIn K (.ref C) name = some (some (.builtin id))) (hb : ∀ self, bindSpecial (.builtin id) self = pure (.builtin id, [self]))
    (h : wpAny M A (call (.builtin id) (.ref x :: args)) (fun v => Q (some v)) E s) : wpAny M A (callSpecialIfBound? (.ref x) name args) Q E s := by
  simp only [callSpecialIfBound?, bindSpecialIfBound?]
  refine wpAny_holding (wpAny_bind (wpAny_bind (wpAny_bind (I.type.here ((looks_findIn X hs).here ?_)))))
  have fin : wpAny M A (call (.builtin id) ([.ref x] ++ args) >>= fun v => pure (some v)) Q E s := wpAny_bind (wpAny_mono h (fun v s' h' => wpAny_pure h') fun _ _ h' => h')
  refine wpAny_bind (wpAny_askSetting (wpAny_ite ?_))
  split
  · exact wpAny_bind ((Looks.of_pure (hb _)).here (wpAny_pure (by exact fin)))
  · exact wpAny_tryCatch (wpAny_bind ((Looks.of_pure (hb _)).here (wpAny_pure (by exact fin))))
theorem cmp_ne {Q : Value → Shared → Prop} (hu : A.units < cLine) (hu1 : A.in1.units < cLine) (F : Fr h₀ L s.heap m) (X₀ : K.In h₀) (I : InstAt s.heap x ox C od) (hb : Looks (model prog w) s.heap (typeOf b) tb) (hn : notFirst K C tb = true)
    (hN : findIn K (.ref C) "__ne__" = some (some (.builtin "object.__ne__"))) (hm : mroIn K C (.type "object") = some true) (hs : findIn K (.ref C) "__eq__" = some (some (.ref f))) (hf : isFn K (.ref f) = true)
    (h : wpAny (model prog w) A.in1 (call (.ref f) [.ref x, b]) (fun v s' => ∃ r, v = .bool r ∧ Q (.bool (!r)) s') E s) : wpAny (model prog w) A (richCompare .NotEq (.ref x) b) Q E s := by
  have X := X₀.keeps F.keep
  have blt : wpAny (model prog w) A (call (.builtin "object.__ne__") [.ref x, b]) (fun v s' => ∃ r, v = .bool r ∧ Q v s') E s := by
    refine wpAny_call (codeAny_call_builtin PySem.F.slot_object_ne.plain PySem.F.cmpEntry_ne (check_slot (i := "object.__ne__") (owner := "object") (n := "__ne__") PySem.F.cmpKind_ne PySem.F.cmpSplit_ne (I.type.andThen (looks_mroIn X hm)) (PySem.F.cmpArgs_ne _ _) ?_))
    unfold Builtin.«object.__ne__»
    refine wpAny_bind (m := slotArgs "__ne__" 1 _) (wpAny_pure ?_)
    refine wpAny_bind (m := cRoomFor _ _) (wpAny_cRoomFor hu1 ?_)
    refine wpAny_bind (m := callSpecialIfBound? (.ref x) (Str.ofString "__eq__") _) (ifBound_K X I hs hf (wpAny_mono h (fun v s' hv => ?_) fun _ _ e => e))
    obtain ⟨r, rfl, hq⟩ := hv
    refine wpAny_bind (m := truthy (.bool r)) (wpAny_truthy_bool ?_)
    exact wpAny_pure ⟨_, rfl, hq⟩
  have one : wpAny (model prog w) A (tryCompare (.ref x) (cmpInfo .NotEq).2.1 b) (fun r s' => ∃ v, r = some v ∧ Q v s') E s := by
    unfold tryCompare
    refine wpAny_bind (bound_blt X I hN PySem.F.slot_object_ne.bind (wpAny_mono blt (fun v s' hv => ?_) fun _ _ e => e))
    obtain ⟨r, rfl, hq⟩ := hv
    exact wpAny_pure ⟨_, rfl, hq⟩
  unfold richCompare
  simp only [oneThing_ref]
  refine wpAny_holding (wpAny_bind (wpAny_cRoomFor hu ?_))
  refine wpAny_bind (I.type.here (wpAny_bind (hb.here ?_)))
  have fin : ∀ {k : Option Value → Sem Value}, (∀ v s', Q v s' → wpAny (model prog w) A (k (some v)) Q E s') → wpAny (model prog w) A (tryCompare (.ref x) (cmpInfo .NotEq).2.1 b >>= k) Q E s := fun hk => wpAny_bind (wpAny_mono one (fun r s' z => by
    obtain ⟨v, rfl, hq⟩ := z
    exact hk v s' hq) fun _ _ e => e)
  split
  · rename_i q
    have e : subIn K tb (.ref C) = some false := by
      rcases Bool.or_eq_true_iff.mp hn with e | e
      · rw [beq_iff_eq.mp e] at q; simp at q
      · exact beq_iff_eq.mp e
    refine wpAny_bind ((looks_subIn X e).here ?_)
    simp only [Bool.false_eq_true, if_false]
    exact fin fun v s' hq => wpAny_pure hq
  · exact fin fun v s' hq => wpAny_pure hq
end
section
variable {X : Cx} {Y : Wd}
theorem op_neO {k : Nat} {C f : Addr} {fd : FuncData} {ps : List Str} {sp : Sp} (F : FnOk X.prog X.w X.K X.mg X.base CX0 k f fd ps sp) (hs : PySem.W.findIn X.K (.ref C) "__eq__" = some (some (.ref f))) (hf : PySem.W.isFn X.K (.ref f) = true) (hb : Binds X.K fd ps []) (hr : Room (k + 1) X.A)
    (hN : PySem.W.findIn X.K (.ref C) "__ne__" = some (some (.builtin "object.__ne__"))) (hm : PySem.W.mroIn X.K C (.type "object") = some true) : OpR X (compareOp .NotEq) (rEqO X.K C sp true) := by
  intro pins s σ H x y v u Q I rx ry h
  obtain ⟨a, dx, fs, t, rfl, ha, ty, nf, hsp⟩ := h
  cases rx
  obtain ⟨mA, J, _⟩ := ins_get I.hok ha
  obtain ⟨od, J, _⟩ := J.look
  obtain ⟨P, Z, p, _⟩ := kit_of I ry ty
  obtain ⟨m, hF⟩ := I.fr
  show wpAny (model X.prog X.w) X.A (richCompare .NotEq (.ref a) u) _ _ _
  refine cmp_ne (tb := t) hr.units0 hr.in1.units0 hF I.ok.mod.kin J (Z.ty _ _ I.kIn p) nf hN hm hs hf ?_
  refine wpAny_mono (call_at (us := [.ref a, u]) (vs := [.ref a, y]) F hr.in1 I.env0.in1 hb I (.cons rfl (.cons ry .nil)) hsp _) (fun r s' q => ?_) fun _ _ z => z
  obtain ⟨w, H', I', rw', b, rfl, q⟩ := q
  cases rw'
  rw [Bool.true_bne] at q
  exact ⟨b, rfl, .bl (!b), H', I', rfl, q⟩
/-- x == y and x != y, x an instance of class c -/
def bEqO (c : Nat) (neg : Bool) (m : List T → VH → Res T) (a b : T) (h : VH) : Res T := match getI h a, tyOf h b with
  | some (c', _), some _ => if c' = c then (match m [a, b] h with
    | .ok (.bl r) h1 => .ok (.bl (neg != r)) h1
    | _ => .bad) else .bad
  | _, _ => .bad
theorem ot_eqO {c : Nat} {neg : Bool} {C : Addr} {m : List T → VH → Res T} (ok : WdOk Y) (hc : Y.cm c = some C) (nf : ∀ (x : TyC) (u : Value), x.fit = true → x.v Y u → PySem.W.notFirst Y.K C u = true) : OT Y (rEqO Y.K C (spM Y m) neg) (bEqO c neg m) := fun ρ H t1 t2 v1 v2 h t h' Q r1 r2 hr e to => by
  unfold bEqO at e
  split at e
  · rename_i c' fs yo e1 e2
    split at e
    · rename_i ec
      subst ec
      split at e
      · rename_i r h1 em
        cases e
        obtain ⟨a, C', dx, vfs, rfl, hc', ha, _, _⟩ := getI_ok r1 hr e1
        rw [hc] at hc'
        cases hc'
        obtain ⟨hf, u, hu, ty⟩ := tyOf_ok ok r2 hr e2
        refine ⟨a, dx, vfs, u, rfl, ha, ty, nf _ _ hf hu, ρ, [t1, t2], h, .bl r, _, .cons r1 (.cons r2 .nil), hr, em, ⟨fun ρ' H' v ev hr' rv => ?_⟩⟩
        cases rv
        exact ⟨r, rfl, to.to ρ' H' _ ev hr' (.bl _)⟩
      · cases e
    · cases e
  · cases e
end
end TL

set_option Elab.async false
set_option linter.all false
set_option maxRecDepth 100000
set_option maxHeartbeats 4000000
namespace TL
open PySem PySem.Spec L2
section
variable {X : Cx} {Y : Wd}
/-! ### str(x), repr(x), bool(x) of an instance -/
def rOwn1 (C : Addr) (sp : Sp) : List V → Hp → VK → Prop := fun vs H Q => ∃ (a dx : Addr) (fs : List (Str × V)), vs = [.ref a] ∧ H a = some (.ins C dx fs) ∧ sp [.ref a] H (fun v H' => ∃ z, v = .str z ∧ Q (.str z) H') E0
theorem cr_strO {k : Nat} {C f : Addr} {fd : FuncData} {ps : List Str} {sp : Sp} (F : FnOk X.prog X.w X.K X.mg X.base CX0 k f fd ps sp) (hs : PySem.W.findIn X.K (.ref C) "__str__" = some (some (.ref f))) (hf : PySem.W.isFn X.K (.ref f) = true) (hb : Binds X.K fd ps []) (hr : Room (k + 1 + 1) X.A) :
    CallR X (.type "str") (rOwn1 C sp) := by
  intro pins s σ H vs us Q I r h
  obtain ⟨a, dx, fs, rfl, ha, hsp⟩ := h
  rw [Vals.ref1 r]
  obtain ⟨mA, J, _⟩ := ins_get I.hok ha
  obtain ⟨od, J, _⟩ := J.look
  refine PySem.W.kso_call hr.in1.in1.units0 I.kIn J hs hf ?_
  refine wpAny_mono (call_at (us := [.ref a]) (vs := [.ref a]) F hr.in1.in1 I.env0.in1.in1 hb I (.cons rfl .nil) hsp _) (fun r s' q => ?_) fun _ _ z => z
  obtain ⟨w, H', I', rw', z, rfl, q⟩ := q
  obtain ⟨t, rfl⟩ := rw'
  exact ⟨.str z, H', I', ⟨t, rfl⟩, q⟩
theorem cr_reprO {k : Nat} {C f : Addr} {fd : FuncData} {ps : List Str} {sp : Sp} (F : FnOk X.prog X.w X.K X.mg X.base CX0 k f fd ps sp) (hs : PySem.W.findIn X.K (.ref C) "__repr__" = some (some (.ref f))) (hf : PySem.W.isFn X.K (.ref f) = true) (hb : Binds X.K fd ps []) (hr : Room (k + 1) X.A) :
    CallR X (.builtin "repr") (rOwn1 C sp) := by
  intro pins s σ H vs us Q I r h
  obtain ⟨a, dx, fs, rfl, ha, hsp⟩ := h
  rw [Vals.ref1 r]
  obtain ⟨mA, J, _⟩ := ins_get I.hok ha
  obtain ⟨od, J, _⟩ := J.look
  obtain ⟨m, hF⟩ := I.fr
  refine PySem.W.repr_K hr.in1.units0 hF I.ok.mod.kin J hs hf ?_
  refine wpAny_mono (call_at (us := [.ref a]) (vs := [.ref a]) F hr.in1 I.env0.in1 hb I (.cons rfl .nil) hsp _) (fun r s' q => ?_) fun _ _ z => z
  obtain ⟨w, H', I', rw', z, rfl, q⟩ := q
  obtain ⟨t, rfl⟩ := rw'
  exact ⟨.str z, H', I', ⟨t, rfl⟩, q⟩
/-- what an own def makes of an instance of class c -/
def fOwn1 (c : Nat) (m : List T → VH → Res T) (ts : List T) (h : VH) : Res T := match ts with
  | [t] => (match getI h t with
    | some (c', _) => if c' = c then (match m [t] h with
      | .ok (.str z) h1 => .ok (.str z) h1
      | _ => .bad) else .bad
    | none => .bad)
  | _ => .bad
theorem ct_own1 {c : Nat} {C : Addr} {m : List T → VH → Res T} (hc : Y.cm c = some C) : CT Y (rOwn1 C (spM Y m)) (fOwn1 c m) := fun ρ H ts vs h t h' Q r hr e to => by
  unfold fOwn1 at e
  split at e
  · split at e
    · rename_i c' fs e1
      split at e
      · rename_i ec
        subst ec
        split at e
        · rename_i z h1 em
          cases e
          obtain ⟨v, rfl, rv⟩ := rps_one r
          obtain ⟨a, C', dx, vfs, rfl, hc', ha, _, _⟩ := getI_ok rv hr e1
          rw [hc] at hc'
          cases hc'
          refine ⟨a, dx, vfs, rfl, ha, ρ, _, h, .str z, _, .cons rv .nil, hr, em, ⟨fun ρ' H' v ev hr' rv' => ?_⟩⟩
          cases rv' with
          | str hx => exact ⟨z, rfl, to.to ρ' H' _ ev hr' (.str hx)⟩
        · cases e
      · cases e
    · cases e
  · cases e
/-- str(text) -/
def fStrS (ts : List T) (h : VH) : Res T := match ts with
  | [.str z] => .ok (.str z) h
  | _ => .bad
theorem ct_strS : CT Y (fun xs H Q => ∃ a, xs = [.str a] ∧ Q (.str a) H) fStrS := fun ρ H ts vs h t h' Q r hr e to => by
  unfold fStrS at e
  split at e
  · cases e
    obtain ⟨v, rfl, rv⟩ := rps_one r
    cases rv with
    | str hx => exact ⟨_, rfl, to.to ρ H _ .refl hr (.str hx)⟩
  · cases e
/-! ### f'..' -/
def eFmt (f : ME) : ME := fun τ h => match f τ h with
  | .ok (.str y) h1 => .ok (.str y) h1
  | .ok (.int i) h1 => if i.natAbs.log2 < 1920 ∧ (Str.ofString (toString i)).length ≤ 1000000 then .ok (.str (toString i)) h1 else .bad
  | _ => .bad
theorem xFmt {e : Expr} {f : ME} {pos : Pos} (he : PE X e (TM Y f)) : PE X (.FormattedValue e (-1) none pos) (TM Y (eFmt f)) := pe_imp (pe_fmt he) fun σ H Q q => by
  obtain ⟨ρ, τ, h, u, h', G, e, to⟩ := q
  unfold eFmt at e
  split at e
  · rename_i y h1 e1
    cases e
    refine ⟨ρ, τ, h, _, _, G, e1, ⟨fun ρ1 H1 v ev hr r => ?_⟩⟩
    cases r with
    | str hx => exact .inl ⟨y, rfl, by rw [sizeLine_eq]; omega, to.to ρ1 H1 _ ev hr (.str hx)⟩
  · rename_i i h1 e1
    split at e
    · rename_i hz
      cases e
      refine ⟨ρ, τ, h, _, _, G, e1, ⟨fun ρ1 H1 v ev hr r => ?_⟩⟩
      cases r
      exact .inr ⟨i, rfl, hz.1, to.to ρ1 H1 _ ev hr (.str hz.2)⟩
    · cases e
  · cases e
def runJ : List ME → Str → TS_ → VH → Res T
  | [], acc, _, h => .ok (.str acc) h
  | f :: fs, acc, τ, h => match f τ h with
    | .ok (.str y) h1 => if acc.length + y.length ≤ 1000000 then runJ fs (acc ++ y) τ h1 else .bad
    | _ => .bad
def eJoin (fs : List ME) : ME := fun τ h => runJ fs Str.empty τ h
inductive PJM (X : Cx) (Y : Wd) : List Expr → List ME → Prop where
  | nil : PJM X Y [] []
  | cons {e : Expr} {f : ME} {es : List Expr} {fs : List ME} : PE X e (TM Y f) → PJM X Y es fs → PJM X Y (e :: es) (f :: fs)
theorem PJM.pj {es : List Expr} {fs : List ME} (h : PJM X Y es fs) : PJ X es (fs.map (TM Y)) := by
  induction h with
  | nil => exact .nil
  | cons a _ ih => exact .cons a ih
theorem runJ_ok {Q : VK} {t : T} {h' : VH} : ∀ (fs : List ME) (acc : Str) (ρ : Rh) (τ : TS_) (σ : St) (H : Hp) (h : VH), acc.length ≤ 1000000 → Go Y ρ H τ σ h → runJ fs acc τ h = .ok t h' → To Y (Rp Y) ρ H t h' Q → tJs (fs.map (TM Y)) acc σ H fun out H1 => Q (.str out) H1
  | [], acc, ρ, τ, σ, H, h, ha, G, e, to => by
    cases e
    exact to.to ρ H _ .refl G.hr (.str ha)
  | f :: fs, acc, ρ, τ, σ, H, h, ha, G, e, to => by
    unfold runJ at e
    split at e
    · rename_i y h1 e1
      split at e
      · rename_i hz
        refine ⟨ρ, τ, h, .str y, h1, G, e1, ⟨fun ρ1 H1 v ev hr r => ?_⟩⟩
        cases r with
        | str hx =>
          have hl : (acc ++ y).length ≤ 1000000 := by rw [len_app]; exact hz
          exact ⟨y, rfl, by rw [sizeLine_eq]; omega, runJ_ok fs (acc ++ y) ρ1 τ σ H1 h1 hl (G.ev ev hr) e (to.ev ev)⟩
      · cases e
    · cases e
theorem xJoin {v1 v2 : Expr} {rest : List Expr} {fs : List ME} {pos : Pos} (h : PJM X Y (v1 :: v2 :: rest) fs) : PE X (.JoinedStr (v1 :: v2 :: rest) pos) (TM Y (eJoin fs)) := pe_imp (pe_joined h.pj) fun σ H Q q => by
  obtain ⟨ρ, τ, h, u, h', G, e, to⟩ := q
  exact runJ_ok fs Str.empty ρ τ σ H h (Nat.zero_le _) G e to
end
end TL

set_option Elab.async false
set_option linter.all false
set_option maxRecDepth 100000
set_option maxHeartbeats 4000000
namespace TL
open PySem PySem.Spec L2
section
variable {X : Cx} {Y : Wd}
/-! ### o.m(..) -/
def eMeth (c : Nat) (mm : List T → VH → Res T) (f : ME) (g : MA) : ME := fun τ h => match f τ h with
  | .ok o h1 => (match getI h1 o with
    | some (c', _) => if c' = c then (match g τ h1 with
      | .ok ts h2 => mm (o :: ts) h2
      | .bad => .bad) else .bad
    | none => .bad)
  | .bad => .bad
theorem lookup_none {m : Str} : ∀ {vfs : List (Str × V)} {n : Nat} {fn : List Str}, vfs.map (·.1) = fn.take n → m ∉ fn → vfs.lookup m = none
  | [], _, _, _, _ => rfl
  | (k, v) :: vfs, n, fn, e, hn => by
    cases fn with
    | nil => simp at e
    | cons a fn =>
      cases n with
      | zero => simp at e
      | succ n =>
        simp only [List.map_cons, List.take_succ_cons, List.cons.injEq] at e
        rw [List.mem_cons, not_or] at hn
        have ne : (m == k) = false := by
          rw [W.beq_decide]
          exact decide_eq_false fun z => hn.1 (z.trans e.1)
        rw [List.lookup_cons, ne]
        exact lookup_none e.2 hn.2
theorem tm_meth {c : Nat} {C : Addr} {nm : Str} {mm : List T → VH → Res T} {f : ME} {g : MA} {σ : St} {H : Hp} {Q : VK} (hc : Y.cm c = some C) (hn : nm ∉ Y.fn c) (q : TM Y (eMeth c mm f g) σ H Q) :
    TM Y f σ H fun x H1 => ∃ (a dx : Addr) (fs : List (Str × V)), x = .ref a ∧ H1 a = some (.ins C dx fs) ∧ fs.lookup nm = none ∧ TMA Y g σ H1 fun vs H2 => spM Y mm (x :: vs) H2 Q E0 := by
  obtain ⟨ρ, τ, h, t, h', G, e, to⟩ := q
  unfold eMeth at e
  cases e1 : f τ h with
  | bad => simp only [e1] at e; cases e
  | ok o h1 =>
    simp only [e1] at e
    split at e
    · rename_i c' fs eo
      split at e
      · rename_i ec
        subst ec
        split at e
        · rename_i ts h2 e2
          refine ⟨ρ, τ, h, o, h1, G, e1, ⟨fun ρ1 H1 v ev hr r => ?_⟩⟩
          obtain ⟨a, C', dx, vfs, rfl, hc', ha, hm, rs⟩ := getI_ok r hr eo
          rw [hc] at hc'
          cases hc'
          exact ⟨a, dx, vfs, rfl, ha, lookup_none hm hn, ρ1, τ, h1, ts, h2, G.ev ev hr, e2, ⟨fun ρ2 H2 vs ev2 hr2 rs2 => ⟨ρ2, o :: ts, h2, t, h', .cons (r.ev ev2.toEvR) rs2, hr2, e, ⟨fun ρ' H' v' ev' hr' r' => to.to ρ' H' v' (ev.trans (ev2.trans ev')) hr' r'⟩⟩⟩⟩
        · cases e
      · cases e
    · cases e
theorem xMeth {pl : Sem Bool} {c k : Nat} {C f : Addr} {fd : FuncData} {ps : List Str} {mm : List T → VH → Res T} {o e : Expr} {es : List Expr} {nm : Str} {t : ME} {g : MA} {apos pos : Pos} (hK : X.K = Y.K) (hc : Y.cm c = some C) (hn : nm ∉ Y.fn c) (cl : Cls Y.K C) (hm : Meth Y.K C nm f) (F : FnOk X.prog X.w X.K X.mg X.base CX0 k f fd ps (spM Y mm)) (hr : Room k X.A) (hb : Binds X.K fd ps [])
    (ho : PE X o (TM Y t)) (ha : PA X (e :: es) (TMA Y g)) (hst : starEach (e :: es) X.env = (false, eval e X.env) :: starEach es X.env := by rfl) (hpl : (backTo pos (starEach es X.env)).any (·.1) = false := by rfl)
    (ht : eval (.Call (.Attribute o nm apos) (e :: es) [] pos) X.env = (do
      let ov ← eval o X.env
      standAt apos.atName
      let (f, first) ← holding [ov] (getMethod ov nm pl)
      callWith pos f first (backTo pos (starEach (e :: es) X.env)) (backToKw pos (keywordEach [] X.env))) := by rfl) :
    PE X (.Call (.Attribute o nm apos) (e :: es) [] pos) (TM Y (eMeth c mm t g)) := pe_imp (pe_meth ho (hK ▸ cl) (hK ▸ hm) F hr hb .nil pass0 ha hst hpl ht) fun σ H Q q => by
  obtain ⟨ρ, τ, h, u, h1, G, e1, to⟩ := tm_meth hc hn q
  refine ⟨ρ, τ, h, u, h1, G, e1, ⟨fun ρ1 H1 v ev hr r => ?_⟩⟩
  obtain ⟨a, dx, fs, ex, ea, el, z⟩ := to.to ρ1 H1 v ev hr r
  refine ⟨a, dx, fs, ex, ea, el, ?_⟩
  obtain ⟨ρ2, τ2, h2, ts, h3, G2, e2, to2⟩ := z
  exact ⟨ρ2, τ2, h2, ts, h3, G2, e2, ⟨fun ρ3 H3 vs ev3 hr3 rs => by rw [List.append_nil]; exact to2.to ρ3 H3 vs ev3 hr3 rs⟩⟩
theorem xMeth0 {pl : Sem Bool} {c k : Nat} {C f : Addr} {fd : FuncData} {ps : List Str} {mm : List T → VH → Res T} {o : Expr} {nm : Str} {t : ME} {apos pos : Pos} (hK : X.K = Y.K) (hc : Y.cm c = some C) (hn : nm ∉ Y.fn c) (cl : Cls Y.K C) (hm : Meth Y.K C nm f) (F : FnOk X.prog X.w X.K X.mg X.base CX0 k f fd ps (spM Y mm)) (hr : Room k X.A) (hb : Binds X.K fd ps [])
    (ho : PE X o (TM Y t))
    (ht : eval (.Call (.Attribute o nm apos) [] [] pos) X.env = (do
      let ov ← eval o X.env
      standAt apos.atName
      let (f, first) ← holding [ov] (getMethod ov nm pl)
      callWith pos f first (backTo pos (starEach [] X.env)) (backToKw pos (keywordEach [] X.env))) := by rfl) :
    PE X (.Call (.Attribute o nm apos) [] [] pos) (TM Y (eMeth c mm t aNil)) := pe_imp (pe_meth0 ho (hK ▸ cl) (hK ▸ hm) F hr hb .nil pass0 ht) fun σ H Q q => by
  obtain ⟨ρ, τ, h, u, h1, G, e1, to⟩ := tm_meth hc hn q
  refine ⟨ρ, τ, h, u, h1, G, e1, ⟨fun ρ1 H1 v ev hr r => ?_⟩⟩
  obtain ⟨a, dx, fs, ex, ea, el, z⟩ := to.to ρ1 H1 v ev hr r
  refine ⟨a, dx, fs, ex, ea, el, ?_⟩
  obtain ⟨ρ2, τ2, h2, ts, h3, G2, e2, to2⟩ := z
  cases e2
  exact to2.to ρ2 H1 [] .refl G2.hr .nil
/-- o.m(k = v, ..) -/
theorem xMethKw {pl : Sem Bool} {c k : Nat} {C f : Addr} {fd : FuncData} {ps ks : List Str} {ix : List Nat} {mm : List T → VH → Res T} {o : Expr} {kws : List Keyword} {nm : Str} {t : ME} {g : MA} {apos pos : Pos} (hK : X.K = Y.K) (hc : Y.cm c = some C) (hn : nm ∉ Y.fn c) (cl : Cls Y.K C) (hm : Meth Y.K C nm f) (F : FnOk X.prog X.w X.K X.mg X.base CX0 k f fd ps (spM Y mm)) (hr : Room k X.A)
    (hb : KwB X.K fd ps ks 1 ix) (ho : PE X o (TM Y t)) (ha : PK X kws (TMA Y g)) (hl : ∀ σ H R, TMA Y g σ H R → TMA Y g σ H fun vs H' => vs.length = ks.length ∧ R vs H') (hall : (backToKw pos (keywordEach kws X.env)).all (·.1.isSome) = true := by rfl) (hks : (backToKw pos (keywordEach kws X.env)).filterMap (·.1) = ks := by rfl)
    (hpl : ((backTo pos (starEach [] X.env)).any (·.1) || (backToKw pos (keywordEach kws X.env)).any (·.1.isNone)) = false := by rfl)
    (ht : eval (.Call (.Attribute o nm apos) [] kws pos) X.env = (do
      let ov ← eval o X.env
      standAt apos.atName
      let (f, first) ← holding [ov] (getMethod ov nm pl)
      callWith pos f first (backTo pos (starEach [] X.env)) (backToKw pos (keywordEach kws X.env))) := by rfl) :
    PE X (.Call (.Attribute o nm apos) [] kws pos) (TM Y (eMeth c mm t (aPerm ix g))) := by
  constructor
  intro pins s σ H Q I q
  refine PySem.W.methodCall_KW (pl := pl) (thn (ho.run pins s σ H _ I (tm_meth hc hn q)) fun u s1 ⟨x, H1, I1, rx, a, dx, fs, ex, ea, l, q1⟩ => ?_) ht
  subst ex
  cases rx
  refine getmeth_ok I1 ea (hK ▸ cl) (hK ▸ hm) l ?_
  refine PySem.W.callWith_KW0 (first := [.ref a]) (h₀ := X.base) I.mod.kin (hK ▸ hm : Meth X.K C nm f).kp hall ?_ hpl
  refine thn (ha.run pos pins s1 σ H1 _ I1 (hl _ _ _ (tma_perm q1))) ?_
  rintro ws s2 ⟨zs, H2, J, r, nz, sp⟩
  rw [hks]
  have rp := Vals.perm r ix
  have bd := hb.to s2 [.ref a] ws J.kIn rfl (r.length.symm.trans nz)
  refine ⟨J.kIn, wpAny_call (codeAny_mono (F.run X.A X.stack s2 H2 _ _ (V.ref a :: permL ix zs) Q E0 hr J.env0 bd (.cons rfl rp) sp) ?_)⟩
  intro res s3 z
  match res, z with
  | .ok (.ret u), z => exact J.after z
  | .error v, z => exact z.elim
/-- C(k = v, ..): made, and cut off -/
theorem xMakeKw {c k : Nat} {f C : Addr} {fd : FuncData} {ps ks : List Str} {ix : List Nat} {m : List T → VH → Res T} {x : Str} {p pos : Pos} {kws : List Keyword} {g : MA} (hc : Y.cm c = some C) (M : Mk X.K C f) (F : FnOk X.prog X.w X.K X.mg X.base CX0 k f fd ps (spM Y m)) (hr : Room (k + 1) X.A) (hg : Gl X x) (hm : X.mg x = some (.ref C)) (hb : KwB X.K fd ps ks 1 ix)
    (ha : PK X kws (TMA Y g)) (hl : ∀ σ H R, TMA Y g σ H R → TMA Y g σ H fun vs H' => vs.length = ks.length ∧ R vs H') (hall : (backToKw pos (keywordEach kws X.env)).all (·.1.isSome) = true := by rfl) (hks : (backToKw pos (keywordEach kws X.env)).filterMap (·.1) = ks := by rfl)
    (hdb : (x == ("__debug__" : Str)) = false := by decide) (hpl : ((backTo pos (starEach [] X.env)).any (·.1) || (backToKw pos (keywordEach kws X.env)).any (·.1.isNone)) = false := by rfl) :
    PE X (.Call (.Name x p) [] kws pos) (TM Y (eCall (cutM (makeM c m)) (aPerm ix g))) :=
  pe_imp (pe_makeK0 (E := E0) (ks := ks) (g := fun us ws => us ++ permL ix ws) (gV := fun vs zs => vs ++ permL ix zs) M F hr hg hm ⟨hb.to, fun a b => a.append (Vals.perm b ix)⟩ pass0 ha hall hks hdb hpl) fun σ H Q q => by
    have z := hl _ _ _ (tma_perm (tm_call (ct_cut (ct_make (E := E0) hc)) q))
    obtain ⟨ρ, τ, h, ts, h', G, e, to⟩ := z
    show TMA Y g σ H _
    refine ⟨ρ, τ, h, ts, h', G, e, ⟨fun ρ1 H1 vs ev hr1 rs => ?_⟩⟩
    obtain ⟨nz, w⟩ := to.to ρ1 H1 vs ev hr1 rs
    refine ⟨rfl, nz, fun y dx hy hdx hne => ?_⟩
    have := w y dx hy hdx hne
    rw [List.append_nil] at this
    exact this
end
end TL

set_option Elab.async false
set_option linter.all false
set_option maxRecDepth 100000
set_option maxHeartbeats 4000000
namespace TL
open PySem
theorem meets_bool_ins {K : PySem.W.Frag} {x C : Addr} (hb : PySem.W.findIn K (.ref C) "__bool__" = some none) (hl : PySem.W.findIn K (.ref C) "__len__" = some none) :
    Meets (Builtin.«bool.__new__» ⟨[.type "bool", .ref x], []⟩) (fun _ R s => (∃ (ox : Obj) (od : Option Obj) (L : Addr) (h₀ : Heap) (m : Str → Option Value), PyProof.Rows.Fr h₀ L s.heap m ∧ K.In h₀ ∧ PySem.W.InstAt s.heap x ox C od) ∧ R (.ok (.ret (.bool true))) s) :=
  Meets.of_wp fun prog w A R s hs => by
    obtain ⟨⟨ox, od, L, h₀, m, fr, X, I⟩, hs⟩ := hs
    obtain ⟨hp, g, d, tk, os⟩ := s
    have f1 := PySem.F.conv_sub_bool
    repeat (any_goals (first | assumption | (with_reducible refine PySem.W.truthy_K0 fr X I hb hl ?_) | wp_step))
    all_goals first | exact ⟨_, rfl, hs⟩ | exact hs | skip
end TL
namespace TL
open PySem PySem.Spec L2
section
variable {X : Cx} {Y : Wd}
/-! ### bool(x), x an instance -/
def rBoolO (C : Addr) : List V → Hp → VK → Prop := fun vs H Q => ∃ (a dx : Addr) (fs : List (Str × V)), vs = [.ref a] ∧ H a = some (.ins C dx fs) ∧ Q (.bl true) H
theorem cr_boolO {C : Addr} (hb : PySem.W.findIn X.K (.ref C) "__bool__" = some none) (hl : PySem.W.findIn X.K (.ref C) "__len__" = some none) : CallR X (.type "bool") (rBoolO C) := by
  intro pins s σ H vs us Q I r h
  obtain ⟨a, dx, fs, rfl, ha, q⟩ := h
  rw [Vals.ref1 r]
  obtain ⟨mA, J, _⟩ := ins_get I.hok ha
  obtain ⟨od, J, _⟩ := J.look
  obtain ⟨m, hF⟩ := I.fr
  refine call_bool_1 (meets_bool_ins (x := a) hb hl) ?_
  refine ⟨⟨W.instObj C dx, some od, X.env.locals, X.base, m, hF, I.ok.mod.kin, J⟩, ?_⟩
  exact ⟨rfl, .bl true, H, I, rfl, q⟩
def fBoolO (c : Nat) (ts : List T) (h : VH) : Res T := match ts with
  | [t] => (match getI h t with
    | some (c', _) => if c' = c then .ok (.bl true) h else .bad
    | none => .bad)
  | _ => .bad
theorem ct_boolO {c : Nat} {C : Addr} (hc : Y.cm c = some C) : CT Y (rBoolO C) (fBoolO c) := fun ρ H ts vs h t h' Q r hr e to => by
  unfold fBoolO at e
  split at e
  · split at e
    · rename_i c' fs e1
      split at e
      · rename_i ec
        subst ec
        cases e
        obtain ⟨v, rfl, rv⟩ := rps_one r
        obtain ⟨a, C', dx, vfs, rfl, hc', ha, _, _⟩ := getI_ok rv hr e1
        rw [hc] at hc'
        cases hc'
        exact ⟨a, dx, vfs, rfl, ha, to.to ρ H _ .refl hr (.bl true)⟩
      · cases e
    · cases e
  · cases e
end
/-! ### facts of own special methods -/
/-- no built-in type and no class of the text stands ahead of C -/
def nfChk (cl : ClT) (K : PySem.W.Frag) (C : Addr) : Bool := (tyNames.all fun n => PySem.W.notFirst K C (.type n)) && cl.all fun q => PySem.W.notFirst K C (.ref (He.ga K q.2.1))
theorem nf_of {cl : ClT} {K : PySem.W.Frag} {C : Addr} (h : nfChk cl K C = true) : ∀ (x : TyC) (u : Value), x.fit = true → x.v (wdOf cl K) u → PySem.W.notFirst K C u = true := by
  unfold nfChk at h
  rw [Bool.and_eq_true] at h
  intro x u hf hv
  cases x with
  | b n =>
    cases hv
    have hm : n ∈ tyNames := by simpa [TyC.fit] using hf
    exact List.all_eq_true.mp h.1 n hm
  | o c =>
    obtain ⟨C', hC, rfl⟩ := hv
    have hC : (cl.lookup c).map (fun q => He.ga K q.1) = some C' := hC
    rw [Option.map_eq_some_iff] at hC
    obtain ⟨q, hq, rfl⟩ := hC
    exact List.all_eq_true.mp h.2 _ (lookup_mem2 hq)
def neB (K : PySem.W.Frag) (C : Addr) : Bool := He.eqO (PySem.W.findIn K (.ref C) "__ne__") (some (some (.builtin "object.__ne__")))
theorem ne_of {K : PySem.W.Frag} {C : Addr} (h : neB K C = true) : PySem.W.findIn K (.ref C) "__ne__" = some (some (.builtin "object.__ne__")) := He.eqO_ok h
def plB (K : PySem.W.Frag) (C : Addr) : Bool := He.eqO (PySem.W.findIn K (.ref C) "__bool__") (some none) && He.eqO (PySem.W.findIn K (.ref C) "__len__") (some none)
theorem pl_of {K : PySem.W.Frag} {C : Addr} (h : plB K C = true) : PySem.W.findIn K (.ref C) "__bool__" = some none ∧ PySem.W.findIn K (.ref C) "__len__" = some none := by
  unfold plB at h
  rw [Bool.and_eq_true] at h
  exact ⟨He.eqO_ok h.1, He.eqO_ok h.2⟩
end TL

set_option Elab.async false
set_option linter.all false
set_option maxRecDepth 100000
set_option maxHeartbeats 4000000
/-! sorted of a tuple or a list -/
namespace TL
open PySem PySem.Spec PySem.Calls PySem.W PyProof PyProof.Rows
/-- sorted of whatever is a list or a tuple, by what its items read as -/
theorem sorted_seqD {β : Type} {prog : Program} {w : World} {A : Around} {E : Value → Shared → Prop} {s : Shared} {vs : List Value} {bs : List β} {enc : β → PyData} {R : Value → β → Prop} {l : Addr} {Q : Value → Shared → Prop} {T : String} (hT : T = "list" ∨ T = "tuple")
    (hl : ∃ o, s.heap.get? l = some o ∧ o.cls = .type T ∧ ∃ n, o.data = .seq vs.toArray n) (e : EachIs R vs bs) (er : EachIs (fun v b => ∃ as, Reads s.heap v (enc b) as) vs bs) (hal : AllAlike (bs.map enc)) (hk : Sortable (bs.map enc)) (hL : bs.length ≤ sizeLine)
    (hu : ∀ b, b ∈ bs → A.units + 2 + (enc b).depth < cLine)
    (h : ∀ (h1 h' : Heap) (out : List Value) (c : Nat), (∀ b o, s.heap.get? b = some o → h1.get? b = some o) → (∀ b o, h1.get? b = some o → h'.get? b = some o) → h'.get? h1.objs.size = some (seqObj "list" out.toArray c) → out.length = bs.length → EachIs R out (bs.mergeSort (dataLe false enc)) → Q (.ref h1.objs.size) { s with heap := h' }) :
    wpAny (model prog w) A (call (.builtin "sorted") [.ref l]) Q E s := by
  obtain ⟨o, ho, hc, n, hd⟩ := hl
  have lv := e.length
  refine Calls.call_function_entry kind_sorted plain_sorted entry_sorted (args_sorted1 _) ?_
  show wpAny _ _ (checkCount "sorted" 1 1 _ >>= _) _ _ _
  refine wpAny_bind (wpAny_pure (wpAny_bind (wpAny_collect_seq (A := A.in1) l hT ho hc hd (fun h1 k1 => wpAny_bind (wpAny_newList ?_ (by simpa using lv ▸ hL))) (by simpa using lv ▸ hL))))
  have ha : ∀ b o, h1.get? b = some o → b ≠ h1.objs.size := fun b o q => Nat.ne_of_lt (Heap.lt_size q)
  have at_ : (h1.push (seqObj "list" vs.toArray 0)).get? h1.objs.size = some (seqObj "list" vs.toArray 0) := Heap.get?_push_size _ rfl
  obtain ⟨hp, ep⟩ : ∃ hp, hp = h1.push (seqObj "list" vs.toArray 0) := ⟨_, rfl⟩
  have k3 : ∀ b o, h1.get? b = some o → hp.get? b = some o := fun b o q => by rw [ep]; exact Heap.get?_push_of_some _ q
  have er2 : EachIs (fun v b => ∃ as, Reads (sortingHeap hp h1.objs.size vs) v (enc b) as) vs bs := er.mono fun _ _ ⟨as, r⟩ => ⟨as, PyProof.Rows.Reads.keeps (fun b o q => sortingHeap_old (ha b o (k1 b o q)) (k3 b o (k1 b o q))) r⟩
  have at2 : hp.get? h1.objs.size = some (seqObj "list" vs.toArray 0) := by rw [ep]; exact at_
  show wpAny _ _ _ _ _ { s with heap := h1.push (seqObj "list" vs.toArray 0) }
  rw [← ep]
  have Srt : SortsAt prog w A.in1.in1 { s with heap := sortingHeap hp h1.objs.size vs } (dataKind (sortingHeap hp h1.objs.size vs) (bs.map enc)) vs := SortsAt.data (s := { s with heap := sortingHeap hp h1.objs.size vs }) (each_map (R := fun v d => ∃ as, Reads (sortingHeap hp h1.objs.size vs) v d as) enc er2) hal hk (bound_map hu)
  refine wpAny_bind (wpAny_holding (wpAny_call_entry slot_list_sort (s := { s with heap := hp }) ⟨_, at2, rfl⟩ entry_list_sort (list_sort_vals (s := { s with heap := hp }) at2 Srt (by rw [lv]; exact hL) ⟨.none, rfl, ?_⟩) (args_list_sort _)))
  obtain ⟨c, hc⟩ := sortedHeap_at (vs := vs) (out := (sortVals (dataKind (sortingHeap hp h1.objs.size vs) (bs.map enc)) false vs vs).toArray) at2
  refine wpAny_pure ⟨_, rfl, h h1 _ _ c k1 (fun b o q => ?_) hc (by rw [sortVals_length false rfl]; exact lv) (sortVals_data false e er2 hal)⟩
  have lt : b < hp.objs.size := Heap.lt_size (k3 b o q)
  rw [sortedHeap_old (ha b o q) lt]
  exact k3 b o q
end TL
namespace TL
open PySem PySem.Spec L2
open PySem.W (alike AllAlike Sortable dataLe EachIs)
def rSortS (K : PySem.W.Frag) : List V → Hp → VK → Prop := fun vs H Q => ∃ (a : Addr) (zs : List Tri), vs = [V.ref a] ∧ (SqL K H a (zs.map (·.2.1)) ∨ SqT K H a (zs.map (·.2.1))) ∧ DpAll K H (zs.map (·.2.1)) (zs.map (·.2.2)) ∧ sortOk (zs.map (·.2.2)) = true ∧ (∀ z ∈ zs, z.2.2.depth ≤ 10) ∧
  ∀ p : Addr, H p = none → Q (.ref p) (upd H p (.lst ((zs.mergeSort (dataLe false (·.2.2))).map (·.2.1))))
theorem cr_sortedS {X : Cx} (hu : X.A.units + 40 < cLine) : CallR X (.builtin "sorted") (rSortS X.K) := by
  intro pins s σ H vs us Q I r h
  obtain ⟨a, zs, rfl, hs, hd, ok, dp, q⟩ := h
  rcases hs with hs | hs
  · exact cr_sortedD hu pins s σ H _ us Q I r ⟨a, zs, rfl, hs, hd, ok, dp, q⟩
  obtain ⟨its, rv, hl, hz⟩ := I.tuple hs
  rw [Vals.ref1 r]
  obtain ⟨al, so⟩ := sortOk_ok ok
  obtain ⟨as, rd⟩ := Dp.readsAll I (zs.map (·.2.2)) (zs.map (·.2.1)) its hd rv
  have er := PySem.W.readsAll_each (fun z : Tri => z.2.2) rd
  rw [List.length_map] at hz
  refine sorted_seqD (.inr rfl) (R := fun u (z : Tri) => RelV z.2.1 u) (enc := fun z : Tri => z.2.2) hl (each_tri rv) er al so hz (fun b hb => by have := dp b hb; omega) fun h1 h' out c k1 k2 at_ lo eo => ?_
  have I1 : Inv X pins σ H { s with heap := h1 } := I.kept (t' := s.toks) k1
  have hlen : ((zs.mergeSort (dataLe false (fun z : Tri => z.2.2))).map (·.2.1)).length ≤ sizeLine := by
    rw [List.length_map, List.length_mergeSort]
    exact hz
  exact ⟨.ref _, upd H h1.objs.size (.lst ((zs.mergeSort (dataLe false (fun z : Tri => z.2.2))).map (·.2.1))), I1.laid (t' := s.toks) k2 (Nat.le_refl _) ⟨hlen, out, c, tri_vals eo, at_⟩, rfl, q _ (I1.hok.fresh (Nat.le_refl _))⟩
section
variable {X : Cx} {Y : Wd}
def fSortedS (ts : List T) (h : VH) : Res (List T) := match ts with
  | [t] => (match seqOf h t with
    | some us => (match us.mapM (T.dat h 10) with
      | some ds => if sortOk ds = true then .ok (sortT us ds) h else .bad
      | none => .bad)
    | none => .bad)
  | _ => .bad
theorem ctf_sortedS : CTF Y (rSortS Y.K) fSortedS := fun ρ H ts vs h us h' Q r hr e to => by
  unfold fSortedS at e
  split at e
  · split at e
    · rename_i us' e1
      split at e
      · rename_i ds e2
        split at e
        · rename_i ok
          cases e
          obtain ⟨v, rfl, rv⟩ := rps_one r
          obtain ⟨a, ws, rfl, hs, hz, rs⟩ := seqOf_ok rv hr e1
          obtain ⟨dp, _, dd⟩ := dats_ok (fun t v d => dat_ok hr 10 t v d) rs e2
          have hl : ds.length = us'.length := by
            have z1 := rs.length
            have z2 : ∀ {vs : List V} {ds : List PyData}, DpAll Y.K H vs ds → ds.length = vs.length := by
              intro vs
              induction vs with
              | nil => intro ds q; cases q; rfl
              | cons v vs ih =>
                intro ds q
                cases q with
                | cons _ q => simp [ih q]
            have := z2 dp
            omega
          obtain ⟨h1, h2, h3, h4⟩ := triL_ok rs hl
          refine ⟨a, triL us' ws ds, rfl, by rw [h1]; exact hs, by rw [h1, h2]; exact dp, by rw [h2]; exact ok, fun z hz' => ?_, ?_⟩
          · have m : z.2.2 ∈ ds := by rw [← h2]; exact List.mem_map.mpr ⟨z, hz', rfl⟩
            have key : ∀ {ds : List PyData} {d : PyData}, d ∈ ds → d.depth ≤ PyData.depthAll ds := by
              intro ds
              induction ds with
              | nil => intro d hd; cases hd
              | cons e ds ih =>
                intro d hd
                rw [PyData.depthAll]
                rcases List.mem_cons.mp hd with rfl | hd
                · exact Nat.le_max_left _ _
                · exact Nat.le_trans (ih hd) (Nat.le_max_right _ _)
            exact Nat.le_trans (key m) dd
          · have e3 : sortT us' ds = ((triL us' ws ds).mergeSort (dataLe false (fun z : Tri => z.2.2))).map (·.1) := by
              unfold sortT
              rw [← h3, ← sort_tri, List.map_map]
              rfl
            have rs2 := tri_rps (Y := Y) (ρ := ρ) (H := H) (zs := (triL us' ws ds).mergeSort (dataLe false (fun z : Tri => z.2.2))) fun z hz => h4 z (List.mem_mergeSort.mp hz)
            rw [← e3] at rs2
            refine lay hr rs2 ?_ to
            rw [List.length_map, List.length_mergeSort, ← List.length_map (as := triL us' ws ds) (f := fun z : Tri => z.2.1), h1]
            exact hz
        · cases e
      · cases e
    · cases e
  · cases e
theorem xSortedS {k : Nat} {e : Expr} {g : MA} {p pos : Pos} (hK : X.K = Y.K) (hu : Room k X.A) (hg : Gl X "sorted") (hm : X.mg "sorted" = none) (ha : PA X [e] (TMA Y g)) (he : starEach [e] X.env = (false, eval e X.env) :: starEach [] X.env := by rfl) :
    PE X (.Call (.Name "sorted" p) [e] [] pos) (TMF Y (mCall fSortedS g)) :=
  xCallBF (r := rSortS Y.K) ctf_sortedS (hK ▸ cr_sortedS (by have := room80 hu; omega)) hg hm bt_sorted ha (by decide) (by decide) he
end
end TL

set_option Elab.async false
set_option linter.all false
set_option maxRecDepth 100000
set_option maxHeartbeats 4000000
/-! comprehensions of two clauses -/
namespace TL
open PySem PySem.Spec L2
section
variable {X : Cx} {Y : Wd}
/-- a walk that goes on whatever becomes of what is not at hand -/
structure Wkb (Y : Wd) (J : It) (rd : VH → Option (List T)) (P : Rh → Hp → Prop) : Prop where
  ev : ∀ ρ H ρ' H', EvR ρ H ρ' H' → P ρ H → P ρ' H'
  up : ∀ ρ H p o, p ∈ ρ.bn → P ρ H → P ρ (upd H p o)
  wk : ∀ ρ H, P ρ H → Wk Y J rd ρ H
def TMIb (Y : Wd) (f : MI) : TI := fun σ H R => ∃ ρ τ h rd h', Go Y ρ H τ σ h ∧ f τ h = .ok rd h' ∧ ∀ ρ' H' J P, Ev ρ H ρ' H' → HR Y ρ' H' h' → Wkb Y J rd P → P ρ' H' → R J H'
theorem wkb_all {J : It} {rd : VH → Option (List T)} (w : ∀ ρ H, Wk Y J rd ρ H) : Wkb Y J rd fun _ _ => True := ⟨fun _ _ _ _ _ _ => trivial, fun _ _ _ _ _ _ => trivial, fun ρ H _ => w ρ H⟩
theorem wkb_rp {J : It} {rd : VH → Option (List T)} {t : T} {v : V} (w : ∀ ρ H, Rp Y ρ H t v → Wk Y J rd ρ H) : Wkb Y J rd fun ρ H => Rp Y ρ H t v := ⟨fun _ _ _ _ e r => r.ev e, fun _ _ _ _ m r => r.updb m, w⟩
theorem xiSeqb {tg e : Expr} {f : ME} (hK : X.K = Y.K) (he : PE X e (TM Y f)) : PI X tg e (TMIb Y (iSeqC f)) := by
  constructor
  rintro pins s σ H R I ⟨ρ, τ, h, rd, h', G, e, to⟩
  unfold iSeqC at e
  cases e1 : f τ h with
  | bad => rw [e1] at e; cases e
  | ok t h1 =>
    rw [e1] at e
    by_cases hw : walkable h1 t = true
    case neg => simp only [hw] at e; cases e
    simp only [hw, if_true] at e
    cases e
    have list : (∀ {n : Nat}, t ≠ .arg (List.replicate n .non)) → (∀ ρ1 H1 v, HR Y ρ1 H1 h' → Rp Y ρ1 H1 t v → ∃ a, v = .ref a ∧ ∃ xs, SqL X.K H1 a xs) → (∀ k, seqS k t = listOf k t) → wpAny (model X.prog X.w) X.A (eval _ X.env) (fun v s1 => wpAny (model X.prog X.w) X.A (pyIter v) (PIE X pins σ tg R) X.xe s1) X.xe s :=
      fun _ k sq => (pi_list he).run pins s σ H R I ⟨ρ, τ, h, t, _, G, e1, ⟨fun ρ1 H1 v ev hr r => by
        obtain ⟨a, rfl, xs, hx⟩ := k ρ1 H1 v hr r
        rw [hK] at hx ⊢
        exact ⟨a, rfl, ⟨xs, hx⟩, to ρ1 H1 _ _ ev hr (wkb_rp fun ρ2 H2 r2 => wk_at (wk_list (v := .non) r2) sq) r⟩⟩⟩
    cases t with
    | str z => exact (pi_str he).run pins s σ H R I ⟨ρ, τ, h, _, _, G, e1, ⟨fun ρ1 H1 v ev hr r => by cases r; exact ⟨_, rfl, to ρ1 H1 _ _ ev hr (wkb_all fun _ _ => wk_str) trivial⟩⟩⟩
    | tup ts =>
      refine (pi_tup he).run pins s σ H R I ⟨ρ, τ, h, _, _, G, e1, ⟨fun ρ1 H1 v ev hr r => ?_⟩⟩
      rw [hK]
      obtain ⟨a, vs, rfl, sq, _, _⟩ := tupOf_ok r (show tupOf (.tup ts) = some ts from rfl)
      exact ⟨a, rfl, ⟨vs, sq⟩, to ρ1 H1 _ _ ev hr (wkb_rp fun ρ2 H2 r2 => wk_at (wk_tup r2) fun _ => rfl) r⟩
    | lst ts =>
      refine list (fun z => by cases z) (fun ρ1 H1 v hr r => ?_) fun _ => rfl
      rw [hK]
      cases r with
      | lst la rs => exact ⟨_, rfl, _, la.sq⟩
    | ref n =>
      refine list (fun z => by cases z) (fun ρ1 H1 v hr r => ?_) fun _ => rfl
      rw [hK]
      obtain ⟨ts, ets⟩ := Option.isSome_iff_exists.mp (show (seqS h' (.ref n)).isSome = true from hw)
      obtain ⟨b, vs, eb, hs, _, _⟩ := listOf_ok r hr (show listOf _ _ = some ts from ets)
      exact ⟨b, eb, vs, hs⟩
    | _ => cases hw
theorem xiRange1b {tg a : Expr} {g : MA} {p pos : Pos} (hg : Gl X "range") (hm : X.mg "range" = none) (ha : PA X [a] (TMA Y g)) (hs : starEach [a] X.env = [(false, eval a X.env)] := by rfl) : PI X tg (.Call (.Name "range" p) [a] [] pos) (TMIb Y (iRange1 g)) :=
  pi_imp (pi_range1 hg hm ha hs) fun σ H R ⟨ρ, τ, h, rd, h', G, e, to⟩ => by
    unfold iRange1 at e
    split at e
    · rename_i j h1 e1
      split at e
      · rename_i hz
        cases e
        refine ⟨ρ, τ, h, _, _, G, e1, ⟨fun ρ1 H1 vs ev hr r => ?_⟩⟩
        obtain ⟨v, rfl, rv⟩ := rps_one r
        cases rv
        exact ⟨j, rfl, by omega, by omega, to ρ1 H1 _ _ ev hr (wkb_all fun _ _ => wk_range) trivial⟩
      · cases e
    · cases e
/-- the turns of the outer clause -/
def lcL2 (rd : VH → Option (List T)) (g : MG) (c : MB) (mi1 : MI) (us : List Nat) (g1 : MG) (c1 : MB) (e : ME) (τ : TS_) (n : Nat) : Nat → Nat → List T → VH → Res (List T)
  | 0, _, acc, h => match rd h with
    | some ts => if ts.length = n then .ok acc h else .bad
    | none => .bad
  | k + 1, i, acc, h => match rd h with
    | some ts => if ts.length = n then (match ts[i]? with
      | some t => (match g t τ h with
        | .ok τ1 h1 => (match c τ1 h1 with
          | .ok true h2 => (match mi1 τ1 h2 with
            | .ok rd1 h3 => (match rd1 h3 with
              | some ts1 => if acc.length + ts1.length ≤ 16777216 then (match lcL rd1 g1 c1 e (wipeT τ1 us) ts1.length ts1.length 0 acc h3 with
                | .ok acc1 h4 => lcL2 rd g c mi1 us g1 c1 e τ n k (i + 1) acc1 h4
                | .bad => .bad) else .bad
              | none => .bad)
            | .bad => .bad)
          | .ok false h2 => lcL2 rd g c mi1 us g1 c1 e τ n k (i + 1) acc h2
          | .bad => .bad)
        | .bad => .bad)
      | none => .bad) else .bad
    | none => .bad
def mLc2 (mi : MI) (ws : List Nat) (g : MG) (c : MB) (mi1 : MI) (us : List Nat) (g1 : MG) (c1 : MB) (e : ME) : MA := fun τ h => match mi τ h with
  | .ok rd h1 => (match rd h1 with
    | some ts => lcL2 rd g c mi1 us g1 c1 e (wipeT τ ws) ts.length ts.length 0 [] h1
    | none => .bad)
  | .bad => .bad
/-- no turn shortens the list, none makes it longer by more than one -/
theorem lcL_len {rd : VH → Option (List T)} {g : MG} {c : MB} {e : ME} {τ : TS_} {n : Nat} : ∀ {k i : Nat} {acc : List T} {h : VH} {ys : List T} {h' : VH}, lcL rd g c e τ n k i acc h = .ok ys h' → ys.length ≤ acc.length + k := by
  intro k
  induction k with
  | zero =>
    intro i acc h ys h' q
    unfold lcL at q
    split at q
    · split at q
      · cases q; omega
      · cases q
    · cases q
  | succ k ih =>
    intro i acc h ys h' q
    unfold lcL at q
    repeat (first | (split at q) | (cases q; done))
    all_goals first
      | (cases q; done)
      | (have := ih q; simp only [List.length_append, List.length_singleton] at this; omega)
      | (have := ih q; omega)
theorem tm_lc2 {mi mi1 : MI} {g g1 : MG} {c c1 : MB} {e : ME} {ws us : List Nat} {σ : St} {H : Hp} {Q : VK} (q : TMF Y (mLc2 mi ws g c mi1 us g1 c1 e) σ H Q) :
    tLc2 (TMI Y mi) (TMGW Y g ws) (TMB Y c) (TMIb Y mi1) (TMGW Y g1 us) (TMB Y c1) (TM Y e) ws us σ H Q := by
  obtain ⟨ρ, τ, h, ys, h', G, e0, to⟩ := q
  unfold mLc2 at e0
  cases e1 : mi τ h with
  | bad => simp only [e1] at e0; cases e0
  | ok rd h1 =>
    simp only [e1] at e0
    refine ⟨ρ, τ, h, rd, h1, G, e1, fun ρ1 H1 J ev hr wk => ?_⟩
    cases e2 : rd h1 with
    | none => simp only [e2] at e0; cases e0
    | some ts0 =>
      simp only [e2] at e0
      intro D hD
      have hD0 : H D = none := ev.fresh hD
      have slw : Sl Y ρ1 H1 (wipeT τ ws) (wipe σ ws) := (G.sl.ev ev.toEvR).wipe ws
      have slb : Sl Y (ρ1.ban D) (upd H1 D (.lst [])) (wipeT τ ws) (wipe σ ws) := ⟨slw.1, fun i t ht => let ⟨v, a, b⟩ := slw.2 i t ht; ⟨v, a, (b.ban hD).updb List.mem_cons_self⟩⟩
      refine ⟨fun i m H => i + m = ts0.length ∧ ∃ ρ2 h2 acc vs, Ev ρ1 H1 ρ2 H ∧ Sl Y (ρ2.ban D) H (wipeT τ ws) (wipe σ ws) ∧ HR Y (ρ2.ban D) H h2 ∧ H D = some (.lst vs) ∧ Rps Y (ρ2.ban D) H acc vs ∧ acc.length ≤ 16777216 ∧ lcL2 rd g c mi1 us g1 c1 e (wipeT τ ws) ts0.length m i acc h2 = .ok ys h',
        ⟨ts0.length, by omega, ρ1, h1, [], [], Ev.new hD, slb, hr.begin hD, upd_same, .nil, Nat.zero_le _, e0⟩, ?_⟩
      rintro i m H2 ⟨him, ρ2, h2, acc, vs, ev2, sl2, hr2, hd2, rs2, hl2, e3⟩
      have mb : D ∈ (ρ2.ban D).bn := List.mem_cons_self
      have nix2 : D ∉ (ρ2.ban D).ix := (hr2.bt D mb).2
      cases m with
      | zero =>
        unfold lcL2 at e3
        split at e3
        case h_2 => cases e3
        rename_i ts ets
        split at e3
        case isFalse => cases e3
        rename_i hl
        cases e3
        have hn : vs.length ≤ sizeLine := by rw [rs2.length, sizeLine_eq]; omega
        have nb : D ∉ ρ2.bn := fun z => by
          rw [ev2.bn] at z
          exact (hr.bt D z).1 hD
        exact .inl ⟨wk.stop ρ2 H2 _ ts i ev2.toEvR hr2.unban ets (by omega), to ρ2 H2 D vs (ev.trans ev2) hr2.unban hD0 ⟨hn, ⟨nix2, nb⟩, hd2⟩ rs2.unban (hr2.topush nb ⟨vs, hd2, hn, rs2.topush⟩)⟩
      | succ m =>
        unfold lcL2 at e3
        split at e3
        case h_2 => cases e3
        rename_i ts ets
        split at e3
        case isFalse => cases e3
        rename_i hl
        split at e3
        case h_2 => cases e3
        rename_i t et
        obtain ⟨go, yl⟩ := wk.go (ρ2.ban D) H2 h2 ts i t (ev2.toEvR.ban hD) hr2 ets et
        refine .inr ⟨go, fun H' => ∃ ρ3 h3 acc3 vs3, Ev ρ1 H1 ρ3 H' ∧ Sl Y (ρ3.ban D) H' (wipeT τ ws) (wipe σ ws) ∧ HR Y (ρ3.ban D) H' h3 ∧ H' D = some (.lst vs3) ∧ Rps Y (ρ3.ban D) H' acc3 vs3 ∧ acc3.length ≤ 16777216 ∧ lcL2 rd g c mi1 us g1 c1 e (wipeT τ ws) ts0.length m (i + 1) acc3 h3 = .ok ys h',
          fun H' hh => ⟨m, by omega, by omega, hh⟩, fun x H3 hy => ?_⟩
        obtain ⟨ev3, hr3, r3⟩ := yl x H3 hy
        split at e3
        case h_2 => cases e3
        rename_i τ4 h4 e4
        refine ⟨ρ2.ban D, wipeT τ ws, h2, t, τ4, h4, ⟨sl2.ev ev3.toEvR, hr3⟩, r3, e4, fun ρ5 H5 σ5 ev5 hr5 sl5 w5 => ?_⟩
        refine ⟨by rw [w5]; exact wipe_idem σ ws, ?_⟩
        have ev35 := ev3.trans ev5
        split at e3
        case h_3 => cases e3
        case h_2 =>
          rename_i h6 e6
          refine ⟨ρ5, τ4, h4, false, h6, ⟨sl5, hr5⟩, e6, ⟨fun ρ6 H6 b ev6 hr6 eb => ?_⟩⟩
          subst eb
          refine iteF ?_
          have eva := ev35.trans ev6
          obtain ⟨ρ8, rfl, ev8⟩ := ban_split hD ev2 eva
          exact ⟨ρ8, h6, acc, vs, ev8, sl2.ev eva.toEvR, hr6, eva.keep D _ hd2 nix2, rs2.ev eva.toEvR, hl2, e3⟩
        rename_i h6 e6
        split at e3
        case h_2 => cases e3
        rename_i rd1 h7 e7
        split at e3
        case h_2 => cases e3
        rename_i ts1 ets1
        split at e3
        case isFalse => cases e3
        rename_i fit
        split at e3
        case h_2 => cases e3
        rename_i acc1 h8 e8
        refine ⟨ρ5, τ4, h4, true, h6, ⟨sl5, hr5⟩, e6, ⟨fun ρ6 H6 b ev6 hr6 eb => ?_⟩⟩
        subst eb
        refine iteT ⟨ρ6, τ4, h6, rd1, h7, ⟨sl5.ev ev6.toEvR, hr6⟩, e7, fun ρ7 H7 J1 P ev7 hr7 wb hP => ?_⟩
        have eva := (ev35.trans ev6).trans ev7
        have hd7 : H7 D = some (.lst vs) := eva.keep D _ hd2 nix2
        obtain ⟨ρ8, rfl, ev8⟩ := ban_split hD ev2 eva
        refine ⟨fun j k H => j + k = ts1.length ∧ ∃ ρ9 h9 acc9 vs9, Ev ρ1 H1 ρ9 H ∧ Sl Y (ρ9.ban D) H (wipeT τ ws) (wipe σ ws) ∧ Sl Y (ρ9.ban D) H (wipeT τ4 us) (wipe σ5 us) ∧ P (ρ9.ban D) H ∧ HR Y (ρ9.ban D) H h9 ∧ H D = some (.lst vs9) ∧ Rps Y (ρ9.ban D) H acc9 vs9 ∧ acc9.length ≤ acc.length + j ∧ lcL rd1 g1 c1 e (wipeT τ4 us) ts1.length k j acc9 h9 = .ok acc1 h8,
          ⟨ts1.length, by omega, ρ8, h7, acc, vs, ev8, sl2.ev eva.toEvR, (sl5.ev (ev6.trans ev7).toEvR).wipe us, hP, hr7, hd7, rs2.ev eva.toEvR, by omega, e8⟩, ?_⟩
        rintro j k H9 ⟨hjk, ρ9, h9, acc9, vs9, ev9, so9, si9, p9, hr9, hd9, rs9, hl9, e9⟩
        have mb9 : D ∈ (ρ9.ban D).bn := List.mem_cons_self
        have nix9 : D ∉ (ρ9.ban D).ix := (hr9.bt D mb9).2
        have self9 : EvR (ρ9.ban D) H9 (ρ9.ban D) H9 := (Ev.refl (ρ := ρ9.ban D) (H := H9)).toEvR
        cases k with
        | zero =>
          have al := lcL_len e8
          unfold lcL at e9
          split at e9
          case h_2 => cases e9
          rename_i us1 eus1
          split at e9
          case isFalse => cases e9
          rename_i hl1
          cases e9
          exact .inl ⟨(wb.wk _ _ p9).stop _ _ _ us1 j self9 hr9 eus1 (by omega), ρ9, _, _, vs9, ev9, so9, hr9, hd9, rs9, by omega, e3⟩
        | succ k =>
          unfold lcL at e9
          split at e9
          case h_2 => cases e9
          rename_i us1 eus1
          split at e9
          case isFalse => cases e9
          rename_i hl1
          split at e9
          case h_2 => cases e9
          rename_i t1 et1
          obtain ⟨go1, yl1⟩ := (wb.wk _ _ p9).go _ _ _ us1 j t1 self9 hr9 eus1 et1
          refine .inr ⟨go1, fun H' => ∃ ρ3 h3 acc3 vs3, Ev ρ1 H1 ρ3 H' ∧ Sl Y (ρ3.ban D) H' (wipeT τ ws) (wipe σ ws) ∧ Sl Y (ρ3.ban D) H' (wipeT τ4 us) (wipe σ5 us) ∧ P (ρ3.ban D) H' ∧ HR Y (ρ3.ban D) H' h3 ∧ H' D = some (.lst vs3) ∧ Rps Y (ρ3.ban D) H' acc3 vs3 ∧ acc3.length ≤ acc.length + (j + 1) ∧ lcL rd1 g1 c1 e (wipeT τ4 us) ts1.length k (j + 1) acc3 h3 = .ok acc1 h8,
            fun H' hh => ⟨k, by omega, by omega, hh⟩, fun x1 H10 hy1 => ?_⟩
          obtain ⟨ev10, hr10, r10⟩ := yl1 x1 H10 hy1
          split at e9
          case h_2 => cases e9
          rename_i τ11 h11 e11
          refine ⟨ρ9.ban D, wipeT τ4 us, h9, t1, τ11, h11, ⟨si9.ev ev10.toEvR, hr10⟩, r10, e11, fun ρ12 H12 σ12 ev12 hr12 sl12 w12 => ?_⟩
          refine ⟨by rw [w12]; exact wipe_idem σ5 us, ?_⟩
          have ev1012 := ev10.trans ev12
          split at e9
          case h_3 => cases e9
          case h_2 =>
            rename_i h13 e13
            refine ⟨ρ12, τ11, h11, false, h13, ⟨sl12, hr12⟩, e13, ⟨fun ρ13 H13 b ev13 hr13 eb => ?_⟩⟩
            subst eb
            refine iteF ?_
            have evb := ev1012.trans ev13
            obtain ⟨ρ14, rfl, ev14⟩ := ban_split hD ev9 evb
            exact ⟨ρ14, h13, acc9, vs9, ev14, so9.ev evb.toEvR, si9.ev evb.toEvR, wb.ev _ _ _ _ evb.toEvR p9, hr13, evb.keep D _ hd9 nix9, rs9.ev evb.toEvR, by omega, e9⟩
          rename_i h13 e13
          split at e9
          case h_2 => cases e9
          rename_i y h14 e14
          refine ⟨ρ12, τ11, h11, true, h13, ⟨sl12, hr12⟩, e13, ⟨fun ρ13 H13 b ev13 hr13 eb => ?_⟩⟩
          subst eb
          refine iteT ⟨ρ13, τ11, h13, y, h14, ⟨sl12.ev ev13.toEvR, hr13⟩, e14, ⟨fun ρ14 H14 v ev14 hr14 r14 => ?_⟩⟩
          have evb := (ev1012.trans ev13).trans ev14
          have hd14 : H14 D = some (.lst vs9) := evb.keep D _ hd9 nix9
          obtain ⟨ρ15, rfl, ev15⟩ := ban_split hD ev9 evb
          have mb15 : D ∈ (ρ15.ban D).bn := List.mem_cons_self
          exact ⟨vs9, hd14, by rw [rs9.length, sizeLine_eq]; omega, ρ15, h14, acc9 ++ [y], vs9 ++ [v], ev15.updf hD, (so9.ev evb.toEvR).updb mb15, (si9.ev evb.toEvR).updb mb15, wb.up _ _ _ _ mb15 (wb.ev _ _ _ _ evb.toEvR p9), hr14.updb mb15, upd_same, ((rs9.ev evb.toEvR).snoc r14).updb mb15, by simp; omega, e9⟩
theorem xLc2 {elt tg iter tg1 iter1 : Expr} {ifs ifs1 : List Expr} {scope : Scope} {own : List (Str × Nat)} {us : List Nat} {pos : Pos} {mi mi1 : MI} {g g1 : MG} {c c1 : MB} {f : ME} (hc : X.calm = true) (hN : X.N.Nodup) (hi : PI X tg iter (TMI Y mi)) (ok : BlkOk X.N X.env.scope scope own) (hv : ∀ i ∈ us, i ∈ own.map (·.2))
    (hg : ∀ (s : Shared) (H : Hp) (C : Addr) (cl : List (Str × Addr)) (fp : List Addr), PG (X.blk s H scope (compEnvC scope cl C X.env) fp) tg (TMGW Y g (own.map (·.2)))) (ht : ∀ (s : Shared) (H : Hp) (C : Addr) (cl : List (Str × Addr)) (fp : List Addr), PTs (X.blk s H scope (compEnvC scope cl C X.env) fp) ifs (TMB Y c))
    (hi1 : ∀ (s : Shared) (H : Hp) (C : Addr) (cl : List (Str × Addr)) (fp : List Addr), PI (X.blk s H scope (compEnvC scope cl C X.env) fp) tg1 iter1 (TMIb Y mi1))
    (hg1 : ∀ (s : Shared) (H : Hp) (C : Addr) (cl : List (Str × Addr)) (fp : List Addr), PG (X.blk s H scope (compEnvC scope cl C X.env) fp) tg1 (TMGW Y g1 us)) (ht1 : ∀ (s : Shared) (H : Hp) (C : Addr) (cl : List (Str × Addr)) (fp : List Addr), PTs (X.blk s H scope (compEnvC scope cl C X.env) fp) ifs1 (TMB Y c1))
    (he : ∀ (s : Shared) (H : Hp) (C : Addr) (cl : List (Str × Addr)) (fp : List Addr), PE (X.blk s H scope (compEnvC scope cl C X.env) fp) elt (TM Y f)) (hs : ∀ x, foldedSetIterable iter X.env x = pure x := by intro _; rfl) (hs1 : ∀ env x, foldedSetIterable iter1 env x = pure x := by intro _ _; rfl) :
    PE X (.ListComp elt [⟨tg, iter, ifs, 0⟩, ⟨tg1, iter1, ifs1, 0⟩] scope pos) (TMF Y (mLc2 mi (own.map (·.2)) g c mi1 us g1 c1 f)) := pe_tmf (pe_lc2 hc hN hi ok hv hg ht hi1 hg1 ht1 he hs hs1) fun σ H Q q => tm_lc2 q
end
end TL

set_option Elab.async false
set_option linter.all false
set_option maxRecDepth 100000
set_option maxHeartbeats 4000000
/-! zip of three lists -/
namespace TL
open PySem PySem.Spec L2 PyProof.Rows
def It3 (K : PySem.W.Frag) (a b c : Addr) (n1 n2 n3 : Nat) : It where
  go i H := (∃ xs ys zs, SqL K H a xs ∧ SqL K H b ys ∧ SqL K H c zs ∧ xs.length = n1 ∧ ys.length = n2 ∧ zs.length = n3) ∧ i < min (min n1 n2) n3
  yld i H v H' := ∃ T x y z, v = .ref T ∧ H T = none ∧ H' = upd H T (.tup [x, y, z]) ∧ (∀ xs, SqL K H a xs → xs[i]? = some x) ∧ (∀ ys, SqL K H b ys → ys[i]? = some y) ∧ ∀ zs, SqL K H c zs → zs[i]? = some z
  stop i H := (∃ xs ys zs, SqL K H a xs ∧ SqL K H b ys ∧ SqL K H c zs ∧ xs.length = n1 ∧ ys.length = n2 ∧ zs.length = n3) ∧ min (min n1 n2) n3 ≤ i
/-- the cells: the zip, its two tuples, the three iterators -/
abbrev cells3 (N : Nat) : List Addr := [N + 5, N + 3, N + 4, N, N + 1, N + 2]
structure At3 (N a b c n i : Nat) (h : Heap) : Prop where
  z : IsZip h (N + 5) (N + 3) (N + 4) .none
  ti : IsTupOf3 h (N + 3) (.ref N) (.ref (N + 1)) (.ref (N + 2))
  tout : ∃ u v w, IsTupOf3 h (N + 4) u v w
  p : h.IsListIter N a i
  q : h.IsListIter (N + 1) b i
  r : h.IsListIter (N + 2) c i
  le : i ≤ n
theorem At3.there {N a b c n i : Nat} {h : Heap} (s : At3 N a b c n i h) {k : Addr} (m : k ∈ cells3 N) : ∃ o, h.get? k = some o ∧ ∀ v, o.data ≠ .cell v := by
  have it : ∀ {k l : Addr}, h.IsListIter k l i → ∃ o, h.get? k = some o ∧ ∀ v, o.data ≠ .cell v := fun ⟨o, e, _, d⟩ => ⟨o, e, fun v y => by rw [d] at y; cases y⟩
  simp only [List.mem_cons, List.not_mem_nil, or_false] at m
  rcases m with rfl | rfl | rfl | rfl | rfl | rfl
  · exact ⟨_, s.z, nofun⟩
  · exact ⟨_, s.ti, nofun⟩
  · obtain ⟨u, v, w, e⟩ := s.tout
    exact ⟨_, e, nofun⟩
  · exact it s.p
  · exact it s.q
  · exact it s.r
theorem At3.stay {N a b c n i : Nat} {h h' : Heap} (s : At3 N a b c n i h) (k : ∀ b ∈ cells3 N, ∀ o, h.get? b = some o → h'.get? b = some o) : At3 N a b c n i h' :=
  ⟨k _ (by simp) _ s.z, k _ (by simp) _ s.ti, let ⟨u, v, w, e⟩ := s.tout; ⟨u, v, w, k _ (by simp) _ e⟩, s.p.at fun o e => k _ (by simp) o e, s.q.at fun o e => k _ (by simp) o e, s.r.at fun o e => k _ (by simp) o e, s.le⟩
theorem sub3 {N : Nat} : ∀ b ∈ [N + 5, N + 4, N, N + 1, N + 2], b ∈ cells3 N := by
  intro b m
  simp only [List.mem_cons, List.not_mem_nil, or_false] at m
  rcases m with h | h | h | h | h <;> simp [h]
theorem val_at {xs : List V} {us : List Value} {i : Nat} {u : Value} (r : Vals xs us) (e : us[i]? = some u) : ∃ x, xs[i]? = some x ∧ RelV x u := by
  have lt : i < xs.length := by rw [r.length]; exact (List.getElem?_eq_some_iff.mp e).1
  obtain ⟨v, q, rv⟩ := r.get (List.getElem?_eq_getElem lt)
  rw [e] at q
  cases q
  exact ⟨_, List.getElem?_eq_getElem lt, rv⟩
theorem turn3 {P : Program} {w : World} {K : PySem.W.Frag} {N a b c n1 n2 n3 : Nat} {es : List Expr} {j : Nat} {tp : Pos} (ha : a < N) (hb : b < N) (hc : c < N) :
    Turn P w K (.Tuple es j tp) (It3 K a b c n1 n2 n3) (cells3 N) (N + 5) (At3 N a b c (min (min n1 n2) n3)) := by
  have one : ∀ {l : Nat}, l < N → ∀ b ∈ [l], b < N := fun q b m => by rw [List.mem_singleton.mp m]; exact q
  have S : ZipSep3 (N + 5) (N + 3) (N + 4) N (N + 1) (N + 2) [N, a] [N + 1, b] [N + 2, c] := zip_sep3 (one ha) (one hb) (one hc)
  have walk : ∀ (X : Cx), X.prog = P → X.w = w → X.A.handled = none → ∀ its its2 its3 : List Value, its.length = n1 → its2.length = n2 → its3.length = n3 →
      ∃ Y St, GoesN P w X.A (.Tuple es j tp) (N + 5) ((N + 5) :: (N + 3) :: (N + 4) :: ([N, a] ++ [N + 1, b] ++ [N + 2, c])) [N + 5, N + 4, N, N + 1, N + 2] (min (min n1 n2) n3) Y St ∧
        (∀ i h₀ v h, Y i h₀ v h → ∃ T x y z, v = .ref T ∧ h₀.objs.size ≤ T ∧ its[i]? = some x ∧ its2[i]? = some y ∧ its3[i]? = some z ∧ h.IsTuple T #[x, y, z]) ∧
        (∀ i h, i ≤ min (min n1 n2) n3 → St i h → At3 N a b c (min (min n1 n2) n3) i h) ∧ ∀ i h, At3 N a b c (min (min n1 n2) n3) i h → h.IsList a its.toArray → h.IsList b its2.toArray → h.IsList c its3.toArray → St i h := by
    rintro X rfl rfl hh its its2 its3 rfl rfl rfl
    have G := GoesN.zip3 (A := X.A) (elts := es) (x1 := j) (pos := tp) S (Draws.list (prog := X.prog) (w := X.w) (A := X.A.in1) hh N a (Nat.ne_of_lt ha) its.toArray) (Draws.list (A := X.A.in1) hh (N + 1) b (Nat.ne_of_lt (Nat.lt_succ_of_lt hb)) its2.toArray) (Draws.list (A := X.A.in1) hh (N + 2) c (Nat.ne_of_lt (Nat.lt_succ_of_lt (Nat.lt_succ_of_lt hc))) its3.toArray)
    simp only [List.size_toArray] at G
    refine ⟨_, _, G, ?_, ?_, ?_⟩
    · rintro i h₀ v h ⟨T, x, y, z, e, le, p1, p2, p3, t⟩
      exact ⟨T, x, y, z, e, le, by simpa using p1, by simpa using p2, by simpa using p3, t⟩
    · rintro i h le ⟨z, ti, to, p, q, r⟩
      exact ⟨z, ti, to, p.1, q.1, r.1, le⟩
    · rintro i h s l1 l2 l3
      exact ⟨s.z, s.ti, s.tout, ⟨s.p, l1⟩, ⟨s.q, l2⟩, ⟨s.r, l3⟩⟩
  refine ⟨by simp, fun i h s k m => s.there m, fun i h h' s k => s.stay k, ?item, ?done, fun A i s Q E t q => wpAny_pyIter_zip t.z q⟩
  case item =>
    rintro X hP hw rfl calm i pins s σ H E I own t ⟨⟨xs, ys, zs, q1, q2, q3, l1, l2, l3⟩, lt⟩
    obtain ⟨its, r1, d1, _⟩ := I.list q1
    obtain ⟨its2, r2, d2, _⟩ := I.list q2
    obtain ⟨its3, r3, d3, _⟩ := I.list q3
    obtain ⟨Y, St, G, tell, back, forth⟩ := walk X hP hw (I.ok.hd calm) its its2 its3 (by rw [← r1.length]; exact l1) (by rw [← r2.length]; exact l2) (by rw [← r3.length]; exact l3)
    refine G.goes i s _ E lt (forth i s.heap t d1.isList d2.isList d3.isList) fun v h' tk y st kept _ => ?_
    obtain ⟨T, x, y, z, rfl, young, e1, e2, e3, tup⟩ := tell _ _ _ _ y
    obtain ⟨x', f1, g1⟩ := val_at r1 e1
    obtain ⟨y', f2, g2⟩ := val_at r2 e2
    obtain ⟨z', f3, g3⟩ := val_at r3 e3
    have J := I.turnedNew (t' := tk) (T := T) (ob := .tup [x', y', z']) (ch := [N + 5, N + 4, N, N + 1, N + 2]) kept (fun b m => own b (sub3 b m)) young ⟨(by rw [sizeLine_eq]; simp : [x', y', z'].length ≤ sizeLine), _, .cons g1 (.cons g2 (.cons g3 .nil)), tup⟩
    refine ⟨.ref T, _, J, rfl, ⟨T, x', y', z', rfl, I.hok.fresh young, rfl, fun us q => by rw [I.list_inj q q1]; exact f1, fun us q => by rw [I.list_inj q q2]; exact f2, fun us q => by rw [I.list_inj q q3]; exact f3⟩, back _ _ lt st, fun b m => ?_⟩
    obtain ⟨o, e, _⟩ := t.there m
    rw [upd_ne (Nat.ne_of_lt (Nat.lt_of_lt_of_le (Heap.lt_size e) young))]
    exact (own b m).1
  case done =>
    rintro X hP hw rfl calm i pins s σ H E I own t ⟨⟨xs, ys, zs, q1, q2, q3, l1, l2, l3⟩, ge⟩
    obtain rfl := Nat.le_antisymm t.le ge
    obtain ⟨its, r1, d1, _⟩ := I.list q1
    obtain ⟨its2, r2, d2, _⟩ := I.list q2
    obtain ⟨its3, r3, d3, _⟩ := I.list q3
    obtain ⟨Y, St, G, tell, back, forth⟩ := walk X hP hw (I.ok.hd calm) its its2 its3 (by rw [← r1.length]; exact l1) (by rw [← r2.length]; exact l2) (by rw [← r3.length]; exact l3)
    exact G.stops s _ E (forth _ s.heap t d1.isList d2.isList d3.isList) fun h' tk kept _ => I.turnedL (t' := tk) (ch := [N + 5, N + 4, N, N + 1, N + 2]) kept fun b m => own b (sub3 b m)
section
variable {X : Cx} {Y : Wd}
def tZip3 (K : PySem.W.Frag) (ta : TA) : TI := fun σ H R => ta σ H fun vs H1 => ∃ a b c xs ys zs, vs = [.ref a, .ref b, .ref c] ∧ SqL K H1 a xs ∧ SqL K H1 b ys ∧ SqL K H1 c zs ∧ R (It3 K a b c xs.length ys.length zs.length) H1
theorem pi_zip3 {e e2 e3 : Expr} {ta : TA} {p pos tpos : Pos} {es : List Expr} {j : Nat} (hg : Gl X "zip") (hm : X.mg "zip" = none) (ha : PA X [e, e2, e3] ta) (hs : starEach [e, e2, e3] X.env = (false, eval e X.env) :: starEach [e2, e3] X.env := by rfl)
    (hpl : (backTo pos (starEach [e2, e3] X.env)).any (·.1) = false := by rfl) : PI X (.Tuple es j tpos) (.Call (.Name "zip" p) [e, e2, e3] [] pos) (tZip3 X.K ta) := by
  constructor
  intro pins s σ H R I h
  refine Call_ (ld_blt I hg hm boot_zip (PyProof.Rows.callWith_type1 (thn (ha.run pos pins s σ H _ I h) ?_) hs hpl))
  rintro us s1 ⟨_, H1, I1, r, a, b, c, xs, ys, zs, rfl, q1, q2, q3, q⟩
  match us, r with
  | [_, _, _], .cons r1 (.cons r2 (.cons r3 .nil)) =>
    obtain rfl := r1
    obtain rfl := r2
    obtain rfl := r3
    obtain ⟨its, v1, d1, _⟩ := I1.list q1
    obtain ⟨its2, v2, d2, _⟩ := I1.list q2
    obtain ⟨its3, v3, d3, _⟩ := I1.list q3
    refine zip_begins3 (begins_list a its.toArray) (begins_list b its2.toArray) (begins_list c its3.toArray) d1.isList d2.isList d3.isList fun h1 z ti to p1 p2 p3 _ more => wpAny_pyIter_zip z ?_
    refine ⟨s1.heap.objs.size + 5, cells3 s1.heap.objs.size, _, _, H1, rfl, I1.kept (t' := s1.toks) more, turn3 (es := es) (j := j) (tp := tpos) d1.lt d2.lt d3.lt, ⟨z, ti, ⟨_, _, _, to⟩, ⟨_, p1, rfl, rfl⟩, ⟨_, p2, rfl, rfl⟩, ⟨_, p3, rfl, rfl⟩, Nat.zero_le _⟩, fun k m => ?_, q⟩
    have le : s1.heap.objs.size ≤ k := by
      simp only [List.mem_cons, List.not_mem_nil, or_false] at m
      rcases m with h | h | h | h | h | h
      · exact h ▸ Nat.le_add_right _ _
      · exact h ▸ Nat.le_add_right _ _
      · exact h ▸ Nat.le_add_right _ _
      · exact h ▸ Nat.le_refl _
      · exact h ▸ Nat.le_add_right _ _
      · exact h ▸ Nat.le_add_right _ _
    exact I1.fpOk le (I1.hok.fresh le)
def zip3T : List T → List T → List T → List T
  | a :: as, b :: bs, c :: cs => .tup [a, b, c] :: zip3T as bs cs
  | _, _, _ => []
theorem zip3T_len : ∀ as bs cs : List T, (zip3T as bs cs).length = min (min as.length bs.length) cs.length
  | [], _, _ => by simp [zip3T]
  | _ :: _, [], _ => by simp [zip3T]
  | _ :: _, _ :: _, [] => by simp [zip3T]
  | _ :: as, _ :: bs, _ :: cs => by
    simp only [zip3T, List.length_cons, zip3T_len as bs cs]
    omega
theorem zip3T_at : ∀ {as bs cs : List T} {i : Nat} {t : T}, (zip3T as bs cs)[i]? = some t → ∃ a b c, t = .tup [a, b, c] ∧ as[i]? = some a ∧ bs[i]? = some b ∧ cs[i]? = some c
  | a :: as, b :: bs, c :: cs, 0, t, e => by
    simp only [zip3T, List.getElem?_cons_zero, Option.some.injEq] at e
    exact ⟨a, b, c, e.symm, rfl, rfl, rfl⟩
  | a :: as, b :: bs, c :: cs, i + 1, t, e => by
    simp only [zip3T, List.getElem?_cons_succ] at e ⊢
    exact zip3T_at e
  | [], _, _, _, _, e => by simp [zip3T] at e
  | _ :: _, [], _, _, _, e => by simp [zip3T] at e
  | _ :: _, _ :: _, [], _, _, e => by simp [zip3T] at e
/-- the lists stay as long as they were -/
def rd3 (t u w : T) (n1 n2 n3 : Nat) : VH → Option (List T) := fun h => match listOf h t, listOf h u, listOf h w with
  | some a, some b, some c => if a.length = n1 ∧ b.length = n2 ∧ c.length = n3 then some (zip3T a b c) else none
  | _, _, _ => none
def iZip3M (g : MA) : MI := fun τ h => match g τ h with
  | .ok [t, u, w] h1 => (match listOf h1 t, listOf h1 u, listOf h1 w with
    | some a, some b, some c => .ok (rd3 t u w a.length b.length c.length) h1
    | _, _, _ => .bad)
  | _ => .bad
theorem new3 {ρ : Rh} {H : Hp} {h : VH} {T' : Addr} {a b c : T} {x y z : V} (hr : HR Y ρ H h) (r1 : Rp Y ρ H a x) (r2 : Rp Y ρ H b y) (r3 : Rp Y ρ H c z) (hp : H T' = none) :
    Ev ρ H ρ (upd H T' (.tup [x, y, z])) ∧ HR Y ρ (upd H T' (.tup [x, y, z])) h ∧ Rp Y ρ (upd H T' (.tup [x, y, z])) (.tup [a, b, c]) (.ref T') := by
  obtain ⟨n1, n2⟩ := newT hr (.cons r1 (.cons r2 (.cons r3 .nil))) (by rw [sizeLine_eq]; simp) hp
  exact ⟨Ev.new hp, n1, n2⟩
theorem wk3 {t u w : T} {ρ : Rh} {H : Hp} {a b c : Addr} {n1 n2 n3 : Nat} (r1 : Rp Y ρ H t (.ref a)) (r2 : Rp Y ρ H u (.ref b)) (r3 : Rp Y ρ H w (.ref c)) : Wk Y (It3 Y.K a b c n1 n2 n3) (rd3 t u w n1 n2 n3) ρ H := by
  have at_ : ∀ ρ1 H1 h ts, EvR ρ H ρ1 H1 → HR Y ρ1 H1 h → rd3 t u w n1 n2 n3 h = some ts → ∃ as bs cs xs ys zs, ts = zip3T as bs cs ∧ SqL Y.K H1 a xs ∧ SqL Y.K H1 b ys ∧ SqL Y.K H1 c zs ∧ Rps Y ρ1 H1 as xs ∧ Rps Y ρ1 H1 bs ys ∧ Rps Y ρ1 H1 cs zs ∧ as.length = n1 ∧ bs.length = n2 ∧ cs.length = n3 := by
    intro ρ1 H1 h ts ev hr e
    unfold rd3 at e
    split at e
    case h_2 => cases e
    rename_i as bs cs e1 e2 e3
    split at e
    case isFalse => cases e
    rename_i l
    cases e
    obtain ⟨_, xs, q, s1, _, p1⟩ := listOf_ok (r1.ev ev) hr e1
    cases q
    obtain ⟨_, ys, q, s2, _, p2⟩ := listOf_ok (r2.ev ev) hr e2
    cases q
    obtain ⟨_, zs, q, s3, _, p3⟩ := listOf_ok (r3.ev ev) hr e3
    cases q
    exact ⟨as, bs, cs, xs, ys, zs, rfl, s1, s2, s3, p1, p2, p3, l.1, l.2.1, l.2.2⟩
  refine ⟨fun ρ1 H1 h ts i v ev hr e ei => ?_, fun ρ1 H1 h ts i ev hr e hl => ?_⟩
  · obtain ⟨as, bs, cs, xs, ys, zs, rfl, s1, s2, s3, p1, p2, p3, l1, l2, l3⟩ := at_ ρ1 H1 h ts ev hr e
    obtain ⟨x, y, z, rfl, f1, f2, f3⟩ := zip3T_at ei
    obtain ⟨x', g1, t1⟩ := p1.get f1
    obtain ⟨y', g2, t2⟩ := p2.get f2
    obtain ⟨z', g3, t3⟩ := p3.get f3
    have lt := (List.getElem?_eq_some_iff.mp ei).1
    rw [zip3T_len, l1, l2, l3] at lt
    refine ⟨⟨⟨xs, ys, zs, s1, s2, s3, by rw [p1.length]; exact l1, by rw [p2.length]; exact l2, by rw [p3.length]; exact l3⟩, lt⟩, fun k H' yl => ?_⟩
    obtain ⟨T', x2, y2, z2, rfl, fresh, rfl, k1, k2, k3⟩ := yl
    have c1 := k1 xs s1
    have c2 := k2 ys s2
    have c3 := k3 zs s3
    rw [g1] at c1
    rw [g2] at c2
    rw [g3] at c3
    cases c1
    cases c2
    cases c3
    exact new3 hr t1 t2 t3 fresh
  · obtain ⟨as, bs, cs, xs, ys, zs, rfl, s1, s2, s3, p1, p2, p3, l1, l2, l3⟩ := at_ ρ1 H1 h ts ev hr e
    rw [zip3T_len, l1, l2, l3] at hl
    exact ⟨⟨xs, ys, zs, s1, s2, s3, by rw [p1.length]; exact l1, by rw [p2.length]; exact l2, by rw [p3.length]; exact l3⟩, hl⟩
theorem xiZip3 {e e2 e3 : Expr} {g : MA} {p pos tpos : Pos} {elts : List Expr} {kk : Nat} (hK : X.K = Y.K) (hg : Gl X "zip") (hm : X.mg "zip" = none) (ha : PA X [e, e2, e3] (TMA Y g)) (hs : starEach [e, e2, e3] X.env = (false, eval e X.env) :: starEach [e2, e3] X.env := by rfl)
    (hpl : (backTo pos (starEach [e2, e3] X.env)).any (·.1) = false := by rfl) : PI X (.Tuple elts kk tpos) (.Call (.Name "zip" p) [e, e2, e3] [] pos) (TMI Y (iZip3M g)) := pi_imp (pi_zip3 hg hm ha hs hpl) fun σ H R q => by
  obtain ⟨ρ, τ, h, rd, h', G, e, to⟩ := q
  unfold iZip3M at e
  split at e
  case h_2 => cases e
  rename_i t u w h1 e1
  split at e
  case h_2 => cases e
  rename_i as bs cs f1 f2 f3
  cases e
  refine ⟨ρ, τ, h, _, _, G, e1, ⟨fun ρ1 H1 vs ev hr r => ?_⟩⟩
  cases r with
  | cons r1 r =>
    cases r with
    | cons r2 r =>
      cases r with
      | cons r3 r =>
        cases r
        obtain ⟨a, xs, rfl, s1, _, p1⟩ := listOf_ok r1 hr f1
        obtain ⟨b, ys, rfl, s2, _, p2⟩ := listOf_ok r2 hr f2
        obtain ⟨c, zs, rfl, s3, _, p3⟩ := listOf_ok r3 hr f3
        rw [hK]
        refine ⟨a, b, c, xs, ys, zs, rfl, s1, s2, s3, ?_⟩
        rw [p1.length, p2.length, p3.length]
        exact to ρ1 H1 _ ev hr (wk3 r1 r2 r3)
end
end TL

set_option Elab.async false
set_option linter.all false
set_option maxRecDepth 100000
set_option maxHeartbeats 4000000
namespace K13
open PySem L2 TL
def s_law_purse : MS := (sSeq (sSet 2 (eIf (bTest (eOp bLt (eVar 1) (eCall fLen (aCons (eVar 0) aNil)))) (eOp bIx (eVar 0) (eVar 1)) (eOp bMul (eK (.int 5417)) (eOp bAdd (eVar 1) (eK (.int 5))))))
  (sSeq (sSet 3 (eOp bAdd (eK (.int 743)) (eVar 1)))
  (sSeq (sFor (iSeqC (eOp bAdd (eSl (eVar 0) oNo (oSome (eK (.int 5)))) (eL (aLim (aCons (eVar 2) aNil))))) (mgName 4) (sSet 3 (eOp bMod (eCall fInt (aCons (eOp bAdd (eOp bAdd (eOp bMul (eVar 3) (eK (.int 39373))) (eOp bMod (eCall fInt (aCons (eVar 4) aNil)) (eK (.int 2147483647)))) (eK (.int 101))) aNil)) (eK (.int 2147483647)))))
  (sRet (eH (aLim (aCons (eIf (bTest (eOp bGe (eCall fAbs (aCons (eVar 2) aNil)) (eOp bPow (eK (.int 10)) (eK (.int 18))))) (eCall fAbs (aCons (eVar 2) aNil)) (eK (.int 0))) (aCons (eVar 3) aNil))))))))
def m_law_purse : List T → VH → Res T := defM 5 2 s_law_purse

def s_number_in : MS := (sSeq (sIf (bOr (bTest (eOp bEq (eVar 0) (eK (.str "")))) (bOr (bNot (bTest (eCall fAll (aCons (eL (mLc (iSeqC (eVar 0)) [2] (mgName 2) bYes (eOp bIn (eVar 2) (eK (.str "0123456789"))))) aNil)))) (bAnd (bTest (eOp bGt (eCall fLen (aCons (eVar 0) aNil)) (eK (.int 1)))) (bTest (eOp bEq (eOp bIx (eVar 0) (eK (.int 0))) (eK (.str "0"))))))) (sRet (eK .non)) sNil)
  (sRet (eIf (bAnd (bTest (eOp bLt (eCall fLen (aCons (eVar 0) aNil)) (eK (.int 9)))) (bTest (eOp bLe (eCall fInt (aCons (eVar 0) aNil)) (eVar 1)))) (eCall fInt (aCons (eVar 0) aNil)) (eK .non))))
def m_number_in : List T → VH → Res T := defM 3 2 s_number_in

def s_line_in : MS := (sSeq (sSet 2 (eL (mLc (iSeqC (eMt "str" mSplit (eVar 0) (aCons (eK (.str " ")) aNil))) [3] (mgName 3) bYes (eCall m_number_in (aCons (eVar 3) (aCons (eOp bSub (eVar 1) (eK (.int 1))) aNil))))))
  (sSeq (sIf (bOr (bTest (eOp bIn (eK .non) (eVar 2))) (bTest (eCall fAny (aCons (eL (mLc (iZipM (aCons (eVar 2) (aCons (eSl (eVar 2) (oSome (eK (.int 1))) oNo) aNil))) [4, 5] (mgTup 2 (mgsCons (mgName 4) (mgsCons (mgName 5) mgsNil))) bYes (eOp bGe (eVar 4) (eVar 5)))) aNil)))) (sRet (eK .non)) sNil)
  (sRet (eCall fTuple (aCons (eVar 2) aNil)))))
def m_line_in : List T → VH → Res T := defM 6 2 s_line_in

def s_lines_in : MS := (sSeq (sIf (bTest (eOp bEq (eVar 0) (eK (.str "")))) (sRet (eL (aLim aNil))) sNil)
  (sSeq (sIf (bTest (eOp bNe (eOp bIx (eVar 0) (eK (.int 0))) (eK (.str " ")))) (sRet (eK .non)) sNil)
  (sSeq (sSet 2 (eL (mLc (iSeqC (eMt "str" mSplit (eSl (eVar 0) (oSome (eK (.int 1))) oNo) (aCons (eK (.str ", ")) aNil))) [3] (mgName 3) bYes (eCall m_line_in (aCons (eVar 3) (aCons (eVar 1) aNil))))))
  (sSeq (sIf (bOr (bTest (eOp bIn (eK .non) (eVar 2))) (bTest (eOp bGt (eCall fLen (aCons (eVar 2) aNil)) (eK (.int 30))))) (sRet (eK .non)) sNil)
  (sRet (eIf (bTest (eCall fAny (aCons (eL (mLc (iZipM (aCons (eVar 2) (aCons (eSl (eVar 2) (oSome (eK (.int 1))) oNo) aNil))) [4, 5] (mgTup 2 (mgsCons (mgName 4) (mgsCons (mgName 5) mgsNil))) bYes (eOp bGe (eVar 4) (eVar 5)))) aNil))) (eK .non) (eVar 2)))))))
def m_lines_in : List T → VH → Res T := defM 6 2 s_lines_in

def s_board_in : MS := (sSeq (sIf (bOr (bNot (bTest (eIsi (.b "str") (eVar 0)))) (bTest (eOp bNe (eMt "str" mCount (eVar 0) (aCons (eK (.str ":")) aNil)) (eK (.int 1))))) (sRet (eK .non)) sNil)
  (sSeq (sAsg (eMt "str" mSplit (eVar 0) (aCons (eK (.str ":")) aNil)) (mgLst 2 (mgsCons (mgName 1) (mgsCons (mgName 2) mgsNil))))
  (sSeq (sSet 3 (eCall m_number_in (aCons (eVar 1) (aCons (eK (.int 30)) aNil))))
  (sSeq (sSet 4 (eIf (bAnd (bTest (eOp bIsn (eVar 3) (eK .non))) (bTest (eOp bGt (eVar 3) (eK (.int 0))))) (eCall m_lines_in (aCons (eVar 2) (aCons (eVar 3) aNil))) (eK .non)))
  (sRet (eIf (bTest (eOp bIs (eVar 4) (eK .non))) (eK .non) (eTup (aCons (eVar 3) (aCons (eVar 4) aNil)))))))))
def m_board_in : List T → VH → Res T := defM 5 1 s_board_in

def s_Board___init__ : MS := (sSeq (sSet 2 (eCall m_board_in (aCons (eVar 1) aNil)))
  (sSeq (sIf (bTest (eOp bIs (eVar 2) (eK .non))) sBad sNil)
  (sSeq (sAsg (eVar 1) (mgFld 0 0 (eVar 0)))
  (sAsg (eVar 2) (mgTup 2 (mgsCons (mgFld 0 1 (eVar 0)) (mgsCons (mgFld 0 2 (eVar 0)) mgsNil)))))))
def m_Board___init__ : List T → VH → Res T := defM 3 2 s_Board___init__

def s_Board_size : MS := (sRet (eFld 0 1 (eVar 0)))
def m_Board_size : List T → VH → Res T := defM 1 1 s_Board_size

def s_check_board : MS := (sIf (bNot (bTest (eIsi (.o 0) (eVar 0)))) sBad sNil)
def m_check_board : List T → VH → Res T := defM 1 1 s_check_board

def s_is_integer : MS := (sRet (eAnd (eIsi (.b "int") (eVar 0)) (eNot (eIsi (.b "bool") (eVar 0)))))
def m_is_integer : List T → VH → Res T := defM 1 1 s_is_integer

def s_is_between : MS := (sRet (eAnd (eCall m_is_integer (aCons (eVar 0) aNil)) (eChain bLe bLe (eVar 1) (eVar 0) (eVar 2))))
def m_is_between : List T → VH → Res T := defM 3 3 s_is_between

def s_check_cells : MS := (sSeq (sIf (bNot (bTest (eIsi (.b "tuple") (eVar 0)))) sBad sNil)
  (sFor (iEnumTM (aCons (eVar 0) aNil)) (mgTup 2 (mgsCons (mgName 3) (mgsCons (mgName 4) mgsNil))) (sIf (bOr (bNot (bTest (eCall m_is_between (aCons (eVar 4) (aCons (eK (.int 0)) (aCons (eOp bSub (eVar 1) (eK (.int 1))) aNil)))))) (bOr (bAnd (bTest (eOp bGt (eVar 3) (eK (.int 0)))) (bTest (eOp bLe (eVar 4) (eOp bIx (eVar 0) (eOp bSub (eVar 3) (eK (.int 1))))))) (bTest (eOp bIn (eVar 4) (eVar 2))))) sBad sNil)))
def m_check_cells : List T → VH → Res T := defM 5 3 s_check_cells

def s_Stand___init__ : MS := (sSeq (sExpr (eCall m_check_board (aCons (eVar 1) aNil)))
  (sSeq (sExpr (eCall m_check_cells (aCons (eVar 2) (aCons (eProp 0 m_Board_size (eVar 1)) (aCons (eTup aNil) aNil)))))
  (sSeq (sExpr (eCall m_check_cells (aCons (eVar 3) (aCons (eProp 0 m_Board_size (eVar 1)) (aCons (eVar 2) aNil)))))
  (sAsg (eTup (aCons (eVar 1) (aCons (eVar 2) (aCons (eVar 3) aNil)))) (mgTup 3 (mgsCons (mgFld 1 0 (eVar 0)) (mgsCons (mgFld 1 1 (eVar 0)) (mgsCons (mgFld 1 2 (eVar 0)) mgsNil))))))))
def m_Stand___init__ : List T → VH → Res T := defM 4 4 s_Stand___init__

def s_Stand_free : MS := (sRet (eCall fTuple (aCons (eL (mLc (iRange1 (aCons (eFld 0 1 (eFld 1 0 (eVar 0))) aNil)) [1] (mgName 1) (bAnd (bTest (eOp bNin (eVar 1) (eFld 1 1 (eVar 0)))) (bTest (eOp bNin (eVar 1) (eFld 1 2 (eVar 0))))) (eVar 1))) aNil)))
def m_Stand_free : List T → VH → Res T := defM 2 1 s_Stand_free

def s_law_divisor : MS := (sSeq (whileL (bTest (eOp bGt (eVar 1) (eK (.int 0)))) (sPar 0 1 (aCons (eVar 1) (aCons (eOp bMod (eCall fInt (aCons (eVar 0) aNil)) (eVar 1)) aNil))) 1000)
  (sRet (eVar 0)))
def m_law_divisor : List T → VH → Res T := defM 2 2 s_law_divisor

def s_law_weight : MS := (sSeq (sAsg (eTup (aCons (eK (.int 0)) (aCons (eK (.int 1)) aNil))) (mgTup 2 (mgsCons (mgName 2) (mgsCons (mgName 3) mgsNil))))
  (sSeq (sFor (iSeqC (eVar 0)) (mgName 4) (sSeq (sSet 5 (eK (.int 1)))
  (sSeq (sFor (iSeqC (eVar 4)) (mgName 6) (sSet 5 (eOp bMul (eVar 5) (eOp bAdd (eVar 1) (eK (.int 1))))))
  (sSeq (sPar 2 3 (aCons (eOp bAdd (eOp bMul (eVar 2) (eVar 5)) (eVar 3)) (aCons (eOp bMul (eVar 3) (eVar 5)) aNil)))
  (sSeq (sSet 7 (eCall m_law_divisor (aCons (eVar 2) (aCons (eVar 3) aNil))))
  (sPar 2 3 (aCons (eOp bFdvW (eVar 2) (eVar 7)) (aCons (eOp bFdvW (eVar 3) (eVar 7)) aNil))))))))
  (sRet (eTup (aCons (eVar 2) (aCons (eVar 3) aNil))))))
def m_law_weight : List T → VH → Res T := defM 8 2 s_law_weight

def s_law_answers : MS := (sSeq (sSet 3 (eTup aNil))
  (sSeq (sFor (iRange1 (aCons (eCall fMin2 (aCons (eVar 2) (aCons (eCall fLen (aCons (eVar 1) aNil)) aNil))) aNil)) (mgName 4) (sSeq (sAsg (eTup (aCons (eTup (aCons (eNeg (eK (.int 1))) (aCons (eK (.int 1)) aNil))) (aCons (eNeg (eK (.int 1))) aNil))) (mgTup 2 (mgsCons (mgName 5) (mgsCons (mgName 6) mgsNil))))
  (sSeq (sFor (iSeqC (eVar 1)) (mgName 7) (sSeq (sSet 8 (eCall m_law_weight (aCons (eL (mLc (iSeqC (eVar 0)) [9] (mgName 9) (bTest (eOp bIn (eVar 7) (eVar 9))) (eVar 9))) (aCons (eVar 2) aNil))))
  (sIf (bTest (eOp bGt (eOp bMul (eOp bIx (eVar 8) (eK (.int 0))) (eOp bIx (eVar 5) (eK (.int 1)))) (eOp bMul (eOp bIx (eVar 5) (eK (.int 0))) (eOp bIx (eVar 8) (eK (.int 1)))))) (sAsg (eTup (aCons (eVar 8) (aCons (eVar 7) aNil))) (mgTup 2 (mgsCons (mgName 5) (mgsCons (mgName 6) mgsNil)))) sNil)))
  (sSeq (sSet 3 (eOp bAdd (eVar 3) (eTup (aCons (eVar 6) aNil))))
  (sSeq (sSet 1 (eL (mLc (iSeqC (eVar 1)) [7] (mgName 7) (bTest (eOp bNe (eVar 7) (eVar 6))) (eVar 7))))
  (sSet 0 (eL (mLc (iSeqC (eVar 0)) [9] (mgName 9) (bTest (eOp bNin (eVar 6) (eVar 9))) (eVar 9)))))))))
  (sRet (eVar 3))))
def m_law_answers : List T → VH → Res T := defM 10 3 s_law_answers

def s_law_draw : MS := (sSeq (sIf (bTest (eOp bGt (eOp bIx (eVar 0) (eK (.int 0))) (eK (.int 0)))) (sSeq (sAsg (eCall fDivmod (aCons (eOp bIx (eVar 0) (eK (.int 0))) (aCons (eVar 1) aNil))) (mgTup 2 (mgsCons (mgSub bSetL (eVar 0) (eK (.int 0))) (mgsCons (mgName 2) mgsNil))))
  (sRet (eVar 2))) sNil)
  (sSeq (sAsg (eOp bMod (eCall fInt (aCons (eOp bAdd (eOp bMul (eOp bIx (eVar 0) (eK (.int 1))) (eK (.int 52021))) (eK (.int 40503))) aNil)) (eK (.int 2147483647))) (mgSub bSetL (eVar 0) (eK (.int 1))))
  (sRet (eOp bMod (eCall fInt (aCons (eOp bFdv (eOp bIx (eVar 0) (eK (.int 1))) (eK (.int 1024))) aNil)) (eVar 1)))))
def m_law_draw : List T → VH → Res T := defM 3 2 s_law_draw

def s_law_rows : MS := (sSeq (sSet 4 (eH (aLim aNil)))
  (sSeq (sFor (iRange1 (aCons (eCall m_law_draw (aCons (eVar 0) (aCons (eOp bAdd (eVar 2) (eK (.int 1))) aNil))) aNil)) (mgName 5) (sSeq (sAsg (eTup (aCons (eOp bAdd (eK (.int 1)) (eCall m_law_draw (aCons (eVar 0) (aCons (eCall fMin2 (aCons (eVar 3) (aCons (eVar 1) aNil))) aNil)))) (aCons (eH (mRg1 (eVar 1))) aNil))) (mgTup 2 (mgsCons (mgName 6) (mgsCons (mgName 7) mgsNil))))
  (sSeq (sIf (bAnd (bTest (eOp bEq (eVar 6) (eK (.int 1)))) (bTest (eOp bGt (eCall m_law_draw (aCons (eVar 0) (aCons (eK (.int 4)) aNil))) (eK (.int 0))))) (sSet 6 (eCall fMin2 (aCons (eK (.int 2)) (aCons (eVar 1) aNil)))) sNil)
  (sSeq (sSet 8 (eCall fTuple (aCons (eL (mCall fSorted (aCons (eL (mLc (iRange1 (aCons (eVar 6) aNil)) [9] (mgName 9) bYes (eMt "list" mPopAt (eVar 7) (aCons (eCall m_law_draw (aCons (eVar 0) (aCons (eCall fLen (aCons (eVar 7) aNil)) aNil))) aNil)))) aNil))) aNil)))
  (sIf (bTest (eOp bNin (eVar 8) (eVar 4))) (sExpr (eMt "list" mAppend (eVar 4) (aCons (eVar 8) aNil))) sNil)))))
  (sRet (eL (mCall fSorted (aCons (eVar 4) aNil))))))
def m_law_rows : List T → VH → Res T := defM 10 4 s_law_rows

def s_law_board : MS := (sSeq (sPar 1 2 (aCons (eCall m_law_draw (aCons (eVar 0) (aCons (eK (.int 6)) aNil))) (aCons (eOp bAdd (eK (.int 2)) (eCall m_law_draw (aCons (eVar 0) (aCons (eK (.int 8)) aNil)))) aNil)))
  (sSeq (sIf (bTest (eOp bEq (eVar 1) (eK (.int 0)))) (sSeq (sSet 3 (eOp bAdd (eK (.int 2)) (eCall m_law_draw (aCons (eVar 0) (aCons (eK (.int 2)) aNil)))))
  (sSeq (sSet 4 (eL (mLc (iRange1 (aCons (eVar 3) aNil)) [5] (mgName 5) bYes (eCall fTuple (aCons (eL (mLc (iRange1 (aCons (eVar 3) aNil)) [6] (mgName 6) bYes (eOp bAdd (eOp bMul (eVar 3) (eVar 5)) (eVar 6)))) aNil)))))
  (sSeq (sSet 4 (eOp bAdd (eVar 4) (eL (mLc (iRange1 (aCons (eVar 3) aNil)) [5] (mgName 5) bYes (eCall fTuple (aCons (eL (mLc (iRange1 (aCons (eVar 3) aNil)) [6] (mgName 6) bYes (eOp bAdd (eOp bMul (eVar 3) (eVar 6)) (eVar 5)))) aNil))))))
  (sSeq (sSet 4 (eOp bAdd (eVar 4) (eL (aLim (aCons (eCall fTuple (aCons (eL (mLc (iRange1 (aCons (eVar 3) aNil)) [6] (mgName 6) bYes (eOp bAdd (eOp bMul (eVar 3) (eVar 6)) (eVar 6)))) aNil)) aNil)))))
  (sRet (eTup (aCons (eOp bMul (eVar 3) (eVar 3)) (aCons (eL (mSortSet (eSl (eVar 4) oNo (oSome (eOp bSub (eCall fLen (aCons (eVar 4) aNil)) (eCall m_law_draw (aCons (eVar 0) (aCons (eK (.int 4)) aNil)))))))) aNil)))))))) sNil)
  (sSeq (sIf (bTest (eOp bEq (eVar 1) (eK (.int 1)))) (sSeq (sSet 7 (eOp bAdd (eK (.int 2)) (eCall m_law_draw (aCons (eVar 0) (aCons (eK (.int 2)) aNil)))))
  (sRet (eTup (aCons (eVar 2) (aCons (eL (mLc (iRange1 (aCons (eOp bAdd (eOp bSub (eVar 2) (eVar 7)) (eK (.int 1))) aNil)) [5] (mgName 5) bYes (eCall fTuple (aCons (eL (mRg2 (eVar 5) (eOp bAdd (eVar 5) (eVar 7)))) aNil)))) aNil))))) sNil)
  (sRet (eTup (aCons (eVar 2) (aCons (eCall m_law_rows (aCons (eVar 0) (aCons (eVar 2) (aCons (eK (.int 7)) (aCons (eIf (bTest (eOp bLt (eVar 1) (eK (.int 4)))) (eK (.int 5)) (eK (.int 3))) aNil))))) aNil)))))))
def m_law_board : List T → VH → Res T := defM 8 1 s_law_board

def s_law_hands : MS := (sSeq (sPar 3 4 (aCons (eH (mRg1 (eVar 1))) (aCons (eL (aLim (aCons (eH (aLim aNil)) (aCons (eH (aLim aNil)) aNil)))) aNil)))
  (sSeq (sFor (iRange1 (aCons (eCall m_law_draw (aCons (eVar 0) (aCons (eOp bAdd (eOp bMul (eK (.int 2)) (eVar 2)) (eK (.int 1))) aNil))) aNil)) (mgName 5) (sIf (bTest (eOp bGt (eCall fLen (aCons (eVar 3) aNil)) (eK (.int 0)))) (sSeq (sSet 6 (eOp bIx (eVar 4) (eCall m_law_draw (aCons (eVar 0) (aCons (eK (.int 2)) aNil)))))
  (sIf (bTest (eOp bLt (eCall fLen (aCons (eVar 6) aNil)) (eVar 2))) (sExpr (eMt "list" mAppend (eVar 6) (aCons (eMt "list" mPopAt (eVar 3) (aCons (eCall m_law_draw (aCons (eVar 0) (aCons (eCall fLen (aCons (eVar 3) aNil)) aNil))) aNil)) aNil))) sNil)) sNil))
  (sRet (eTup (aCons (eCall fTuple (aCons (eL (mCall fSorted (aCons (eOp bIx (eVar 4) (eK (.int 0))) aNil))) aNil)) (aCons (eCall fTuple (aCons (eL (mCall fSorted (aCons (eOp bIx (eVar 4) (eK (.int 1))) aNil))) aNil)) aNil))))))
def m_law_hands : List T → VH → Res T := defM 7 3 s_law_hands

def s_law_rests : MS := (sSeq (sSet 3 (eH (aLim aNil)))
  (sSeq (sFor (iEnumM (aCons (eVar 0) aNil)) (mgTup 2 (mgsCons (mgName 4) (mgsCons (mgName 5) mgsNil))) (sIf (bTest (eOp bEq (eL (mLc (iSeqC (eVar 5)) [6] (mgName 6) (bTest (eOp bIn (eVar 6) (eVar 2))) (eVar 6))) (eL (aLim aNil)))) (sExpr (eMt "list" mAppend (eVar 3) (aCons (eTup (aCons (eVar 4) (aCons (eCall fTuple (aCons (eL (mLc (iSeqC (eVar 5)) [6] (mgName 6) (bTest (eOp bNin (eVar 6) (eVar 1))) (eVar 6))) aNil)) aNil))) aNil))) sNil))
  (sRet (eVar 3))))
def m_law_rests : List T → VH → Res T := defM 7 3 s_law_rests

def s_law_word_of : MS := (sSeq (sSet 2 (eL (mLc (iSeqC (eVar 1)) [3] (mgName 3) bYes (eMt "str" mJoin (eK (.str " ")) (aCons (eL (mLc (iSeqC (eVar 3)) [4] (mgName 4) bYes (eCall fStr (aCons (eVar 4) aNil)))) aNil)))))
  (sRet (eOp bAdd (eOp bAdd (eOp bAdd (eCall fStr (aCons (eVar 0) aNil)) (eK (.str ":"))) (eIf (bTest (eOp bNe (eVar 2) (eL (aLim aNil)))) (eK (.str " ")) (eK (.str "")))) (eMt "str" mJoin (eK (.str ", ")) (aCons (eVar 2) aNil)))))
def m_law_word_of : List T → VH → Res T := defM 5 2 s_law_word_of

def s_is_live : MS := (sRet (eNot (eCall fAny (aCons (eL (mLc (iSeqC (eVar 0)) [2] (mgName 2) bYes (eOp bIn (eVar 2) (eVar 1)))) aNil))))
def m_is_live : List T → VH → Res T := defM 3 2 s_is_live

def s_rest_of : MS := (sRet (eCall fTuple (aCons (eL (mLc (iSeqC (eVar 0)) [2] (mgName 2) (bTest (eOp bNin (eVar 2) (eVar 1))) (eVar 2))) aNil)))
def m_rest_of : List T → VH → Res T := defM 3 2 s_rest_of

def s_Stand_rests : MS := (sRet (eCall fTuple (aCons (eL (mLc (iSeqC (eFld 0 2 (eFld 1 0 (eVar 0)))) [1] (mgName 1) (bTest (eCall m_is_live (aCons (eVar 1) (aCons (eFld 1 2 (eVar 0)) aNil)))) (eCall m_rest_of (aCons (eVar 1) (aCons (eFld 1 1 (eVar 0)) aNil))))) aNil)))
def m_Stand_rests : List T → VH → Res T := defM 2 1 s_Stand_rests

def s_check_free : MS := (sIf (bOr (bNot (bTest (eCall m_is_between (aCons (eVar 1) (aCons (eK (.int 0)) (aCons (eOp bSub (eFld 0 1 (eFld 1 0 (eVar 0))) (eK (.int 1))) aNil)))))) (bOr (bTest (eOp bIn (eVar 1) (eFld 1 1 (eVar 0)))) (bTest (eOp bIn (eVar 1) (eFld 1 2 (eVar 0)))))) sBad sNil)
def m_check_free : List T → VH → Res T := defM 2 2 s_check_free

def s_check_many : MS := (sIf (bNot (bTest (eCall m_is_between (aCons (eVar 0) (aCons (eK (.int 1)) (aCons (eK (.int 9)) aNil)))))) sBad sNil)
def m_check_many : List T → VH → Res T := defM 1 1 s_check_many

def s_check_stand : MS := (sIf (bNot (bTest (eIsi (.o 1) (eVar 0)))) sBad sNil)
def m_check_stand : List T → VH → Res T := defM 1 1 s_check_stand

def s_divisor : MS := (sSeq (whileL (bTest (eOp bGt (eVar 1) (eK (.int 0)))) (sPar 0 1 (aCons (eVar 1) (aCons (eOp bMod (eVar 0) (eVar 1)) aNil))) 1000)
  (sRet (eVar 0)))
def m_divisor : List T → VH → Res T := defM 2 2 s_divisor

def s_reduced : MS := (sSeq (sSet 1 (eCall m_divisor (aCons (eOp bIx (eVar 0) (eK (.int 0))) (aCons (eOp bIx (eVar 0) (eK (.int 1))) aNil))))
  (sRet (eTup (aCons (eOp bFdvW (eOp bIx (eVar 0) (eK (.int 0))) (eVar 1)) (aCons (eOp bFdvW (eOp bIx (eVar 0) (eK (.int 1))) (eVar 1)) aNil)))))
def m_reduced : List T → VH → Res T := defM 2 1 s_reduced

def s_power : MS := (sSeq (sSet 2 (eK (.int 1)))
  (sSeq (sFor (iRange1 (aCons (eVar 1) aNil)) (mgName 3) (sSet 2 (eOp bMul (eVar 2) (eVar 0))))
  (sRet (eVar 2))))
def m_power : List T → VH → Res T := defM 4 2 s_power

def s_weight_of : MS := (sRet (eTup (aCons (eCall fSum (aCons (eL (mLc (iSeqC (eVar 0)) [3] (mgName 3) bYes (eCall m_power (aCons (eOp bAdd (eVar 1) (eK (.int 1))) (aCons (eOp bSub (eVar 2) (eCall fLen (aCons (eVar 3) aNil))) aNil))))) aNil)) (aCons (eCall m_power (aCons (eOp bAdd (eVar 1) (eK (.int 1))) (aCons (eVar 2) aNil))) aNil))))
def m_weight_of : List T → VH → Res T := defM 4 3 s_weight_of

def s_danger : MS := (sSeq (sExpr (eCall m_check_stand (aCons (eVar 0) aNil)))
  (sSeq (sExpr (eCall m_check_many (aCons (eVar 1) aNil)))
  (sSeq (sExpr (eCall m_check_free (aCons (eVar 0) (aCons (eVar 2) aNil))))
  (sRet (eCall m_reduced (aCons (eCall m_weight_of (aCons (eL (mLc (iSeqC (eProp 1 m_Stand_rests (eVar 0))) [3] (mgName 3) (bTest (eOp bIn (eVar 2) (eVar 3))) (eVar 3))) (aCons (eVar 1) (aCons (eCall fLen (aCons (eProp 1 m_Stand_free (eVar 0)) aNil)) aNil)))) aNil))))))
def m_danger : List T → VH → Res T := defM 4 3 s_danger

def s_check_mover : MS := (sIf (bOr (bNot (bTest (eIsi (.b "str") (eVar 0)))) (bTest (eOp bNin (eVar 0) (eTup (aCons (eK (.str "first")) (aCons (eK (.str "second")) aNil)))))) sBad sNil)
def m_check_mover : List T → VH → Res T := defM 1 1 s_check_mover

def s_is_light : MS := (sSeq (sExpr (eCall m_check_stand (aCons (eVar 0) aNil)))
  (sSeq (sExpr (eCall m_check_many (aCons (eVar 1) aNil)))
  (sSeq (sExpr (eCall m_check_mover (aCons (eVar 2) aNil)))
  (sSeq (sAsg (eCall m_weight_of (aCons (eProp 1 m_Stand_rests (eVar 0)) (aCons (eVar 1) (aCons (eCall fLen (aCons (eProp 1 m_Stand_free (eVar 0)) aNil)) aNil)))) (mgTup 2 (mgsCons (mgName 3) (mgsCons (mgName 4) mgsNil))))
  (sRet (eIf (bTest (eOp bEq (eVar 2) (eK (.str "second")))) (eOp bLt (eVar 3) (eVar 4)) (eOp bLt (eOp bMul (eVar 3) (eOp bAdd (eVar 1) (eK (.int 1)))) (eVar 4))))))))
def m_is_light : List T → VH → Res T := defM 5 3 s_is_light

def s_weight : MS := (sSeq (sExpr (eCall m_check_stand (aCons (eVar 0) aNil)))
  (sSeq (sExpr (eCall m_check_many (aCons (eVar 1) aNil)))
  (sRet (eCall m_reduced (aCons (eCall m_weight_of (aCons (eProp 1 m_Stand_rests (eVar 0)) (aCons (eVar 1) (aCons (eCall fLen (aCons (eProp 1 m_Stand_free (eVar 0)) aNil)) aNil)))) aNil)))))
def m_weight : List T → VH → Res T := defM 2 2 s_weight

def s_behind : MS := (sSeq (sIf (bTest (eOp bEq (eVar 1) (eK (.str "first")))) (sRet (eCall (cutM (makeM 1 m_Stand___init__)) (aCons (eFld 1 0 (eVar 0)) (aCons (eCall fTuple (aCons (eL (mCall fSorted (aCons (eL (aLim (aStar (eFld 1 1 (eVar 0)) (aCons (eVar 2) aNil)))) aNil))) aNil)) (aCons (eFld 1 2 (eVar 0)) aNil))))) sNil)
  (sRet (eCall (cutM (makeM 1 m_Stand___init__)) (aCons (eFld 1 0 (eVar 0)) (aCons (eFld 1 1 (eVar 0)) (aCons (eCall fTuple (aCons (eL (mCall fSorted (aCons (eL (aLim (aStar (eFld 1 2 (eVar 0)) (aCons (eVar 2) aNil)))) aNil))) aNil)) aNil))))))
def m_behind : List T → VH → Res T := defM 3 3 s_behind

def s_most_dangerous : MS := (sSeq (sPar 2 3 (aCons (eCall fLen (aCons (eProp 1 m_Stand_free (eVar 0)) aNil)) (aCons (eTup (aCons (eNeg (eK (.int 1))) (aCons (eK (.int 0)) aNil))) aNil)))
  (sSeq (sFor (iSeqC (eProp 1 m_Stand_free (eVar 0))) (mgName 4) (sSeq (sSet 5 (eOp bIx (eCall m_weight_of (aCons (eL (mLc (iSeqC (eProp 1 m_Stand_rests (eVar 0))) [6] (mgName 6) (bTest (eOp bIn (eVar 4) (eVar 6))) (eVar 6))) (aCons (eVar 1) (aCons (eVar 2) aNil)))) (eK (.int 0))))
  (sSet 3 (eIf (bTest (eOp bGt (eVar 5) (eOp bIx (eVar 3) (eK (.int 0))))) (eTup (aCons (eVar 5) (aCons (eVar 4) aNil))) (eVar 3)))))
  (sRet (eOp bIx (eVar 3) (eK (.int 1))))))
def m_most_dangerous : List T → VH → Res T := defM 7 2 s_most_dangerous

def s_weight_answer : MS := (sSeq (sExpr (eCall m_check_stand (aCons (eVar 0) aNil)))
  (sSeq (sExpr (eCall m_check_many (aCons (eVar 1) aNil)))
  (sSeq (sSet 2 (eTup aNil))
  (sSeq (whileL (bAnd (bTest (eOp bLt (eCall fLen (aCons (eVar 2) aNil)) (eVar 1))) (bTest (eOp bNe (eProp 1 m_Stand_free (eVar 0)) (eTup aNil)))) (sSeq (sSet 2 (eTup (aStar (eVar 2) (aCons (eCall m_most_dangerous (aCons (eVar 0) (aCons (eVar 1) aNil))) aNil))))
  (sSet 0 (eCall m_behind (aCons (eVar 0) (aCons (eK (.str "second")) (aCons (eOp bIx (eVar 2) (eNeg (eK (.int 1)))) aNil)))))) 1000)
  (sRet (eVar 2))))))
def m_weight_answer : List T → VH → Res T := defM 3 2 s_weight_answer

def s_law_right : MS := (sSeq (sFor (iRange1 (aCons (eK (.int 3)) aNil)) (mgName 1) (sSeq (sAsg (eIf (bTest (eOp bGt (eVar 1) (eK (.int 0)))) (eCall m_law_board (aCons (eVar 0) aNil)) (eTup (aCons (eK (.int 30)) (aCons (eCall m_law_rows (aCons (eVar 0) (aCons (eK (.int 30)) (aCons (eK (.int 20)) (aCons (eK (.int 12)) aNil))))) aNil)))) (mgTup 2 (mgsCons (mgName 2) (mgsCons (mgName 3) mgsNil))))
  (sSeq (sAsg (eCall m_law_hands (aCons (eVar 0) (aCons (eVar 2) (aCons (eK (.int 3)) aNil)))) (mgTup 2 (mgsCons (mgName 4) (mgsCons (mgName 5) mgsNil))))
  (sSeq (sPar 6 7 (aCons (eCall (cutM (makeM 1 m_Stand___init__)) (aCons (eCall (cutM (makeM 0 m_Board___init__)) (aCons (eCall m_law_word_of (aCons (eVar 2) (aCons (eVar 3) aNil))) aNil)) (aCons (eVar 4) (aCons (eVar 5) aNil)))) (aCons (eOp bAdd (eK (.int 1)) (eCall m_law_draw (aCons (eVar 0) (aCons (eK (.int 9)) aNil)))) aNil)))
  (sSeq (sPar 8 9 (aCons (eL (mCall fList (aCons (eProp 1 m_Stand_free (eVar 6)) aNil))) (aCons (eL (mLc (iSeqC (eCall m_law_rests (aCons (eVar 3) (aCons (eVar 4) (aCons (eVar 5) aNil))))) [10] (mgName 10) bYes (eOp bIx (eVar 10) (eK (.int 1))))) aNil)))
  (sSeq (sAsg (eCall m_law_weight (aCons (eVar 9) (aCons (eVar 7) aNil))) (mgTup 2 (mgsCons (mgName 11) (mgsCons (mgName 12) mgsNil))))
  (sSeq (sIf (bTest (eOp bNe (eL (aLim (aCons (eCall m_weight (aCons (eVar 6) (aCons (eVar 7) aNil))) (aCons (eCall m_weight (aPerm [1, 0] (aCons (eVar 7) (aCons (eVar 6) aNil)))) aNil)))) (eL (mMul (eL (aLim (aCons (eTup (aCons (eVar 11) (aCons (eVar 12) aNil))) aNil))) (eK (.int 2)))))) (sRet (eK (.bl false))) sNil)
  (sSeq (sFor (iSeqC (eVar 8)) (mgName 13) (sSeq (sSet 14 (eCall m_law_weight (aCons (eL (mLc (iSeqC (eVar 9)) [15] (mgName 15) (bTest (eOp bIn (eVar 13) (eVar 15))) (eVar 15))) (aCons (eVar 7) aNil))))
  (sIf (bTest (eOp bNe (eL (aLim (aCons (eCall m_danger (aCons (eVar 6) (aCons (eVar 7) (aCons (eVar 13) aNil)))) (aCons (eCall m_danger (aPerm [2, 1, 0] (aCons (eVar 13) (aCons (eVar 7) (aCons (eVar 6) aNil))))) aNil)))) (eL (aLim (aCons (eVar 14) (aCons (eVar 14) aNil)))))) (sRet (eK (.bl false))) sNil)))
  (sSeq (sFor (iSeqC (eL (aLim (aCons (eTup (aCons (eK (.str "second")) (aCons (eOp bLt (eVar 11) (eVar 12)) aNil))) (aCons (eTup (aCons (eK (.str "first")) (aCons (eOp bLt (eOp bMul (eVar 11) (eOp bAdd (eVar 7) (eK (.int 1)))) (eVar 12)) aNil))) aNil))))) (mgTup 2 (mgsCons (mgName 16) (mgsCons (mgName 14) mgsNil))) (sSeq (sSet 17 (eL (aLim (aCons (eCall m_is_light (aCons (eVar 6) (aCons (eVar 7) (aCons (eVar 16) aNil)))) (aCons (eCall m_is_light (aPerm [2, 1, 0] (aCons (eVar 16) (aCons (eVar 7) (aCons (eVar 6) aNil))))) aNil)))))
  (sIf (bTest (eOp bNe (eCall fRepr (aCons (eVar 17) aNil)) (eCall fRepr (aCons (eL (aLim (aCons (eVar 14) (aCons (eVar 14) aNil)))) aNil)))) (sRet (eK (.bl false))) sNil)))
  (sSeq (sSet 14 (eCall m_law_answers (aCons (eVar 9) (aCons (eVar 8) (aCons (eVar 7) aNil)))))
  (sIf (bTest (eOp bNe (eL (aLim (aCons (eCall m_weight_answer (aCons (eVar 6) (aCons (eVar 7) aNil))) (aCons (eCall m_weight_answer (aPerm [1, 0] (aCons (eVar 7) (aCons (eVar 6) aNil)))) aNil)))) (eL (aLim (aCons (eVar 14) (aCons (eVar 14) aNil)))))) (sRet (eK (.bl false))) sNil)))))))))))
  (sRet (eK (.bl true))))
def m_law_right : List T → VH → Res T := defM 18 1 s_law_right

def s_law : MS := (sRet (eCall fAll (aCons (eL (mLc (iRange1 (aCons (eCall fMax2 (aCons (eK (.int 2)) (aCons (eCall fMin2 (aCons (eCall fLen (aCons (eVar 0) aNil)) (aCons (eK (.int 4)) aNil))) aNil))) aNil)) [1] (mgName 1) bYes (eCall m_law_right (aCons (eCall m_law_purse (aCons (eVar 0) (aCons (eVar 1) aNil))) aNil)))) aNil)))
def m_law : List T → VH → Res T := defM 2 1 s_law

end K13

set_option Elab.async false
set_option linter.all false
set_option maxRecDepth 100000
set_option maxHeartbeats 4000000
namespace K06
open K13
open PySem L2 TL
def s_Board_text : MS := (sRet (eFld 0 0 (eVar 0)))
def m_Board_text : List T → VH → Res T := defM 1 1 s_Board_text

def s_Board___eq__ : MS := (sRet (eAnd (eIsi (.o 0) (eVar 1)) (eOp bEq (eFld 0 0 (eVar 0)) (eProp 0 m_Board_text (eVar 1)))))
def m_Board___eq__ : List T → VH → Res T := defM 2 2 s_Board___eq__

def s_Stand_board : MS := (sRet (eFld 1 0 (eVar 0)))
def m_Stand_board : List T → VH → Res T := defM 1 1 s_Stand_board

def s_Stand_both : MS := (sRet (eTup (aCons (eFld 1 1 (eVar 0)) (aCons (eFld 1 2 (eVar 0)) aNil))))
def m_Stand_both : List T → VH → Res T := defM 1 1 s_Stand_both

def s_Stand_first : MS := (sRet (eFld 1 1 (eVar 0)))
def m_Stand_first : List T → VH → Res T := defM 1 1 s_Stand_first

def s_Stand_second : MS := (sRet (eFld 1 2 (eVar 0)))
def m_Stand_second : List T → VH → Res T := defM 1 1 s_Stand_second

def s_Stand___eq__ : MS := (sRet (eAnd (eIsi (.o 1) (eVar 1)) (eAnd (eOp (bEqO 0 false m_Board___eq__) (eFld 1 0 (eVar 0)) (eProp 1 m_Stand_board (eVar 1))) (eOp bEq (eMeth 1 m_Stand_both (eVar 0) aNil) (eTup (aCons (eProp 1 m_Stand_first (eVar 1)) (aCons (eProp 1 m_Stand_second (eVar 1)) aNil)))))))
def m_Stand___eq__ : List T → VH → Res T := defM 2 2 s_Stand___eq__

def s_Stand_taken : MS := (sSeq (sExpr (eCall m_check_mover (aCons (eVar 1) aNil)))
  (sSeq (sExpr (eCall m_check_free (aCons (eVar 0) (aCons (eVar 2) aNil))))
  (sRet (eCall m_behind (aCons (eVar 0) (aCons (eVar 1) (aCons (eVar 2) aNil)))))))
def m_Stand_taken : List T → VH → Res T := defM 3 3 s_Stand_taken

def s_Board___str__ : MS := (sRet (eCall fStrS (aCons (eFld 0 0 (eVar 0)) aNil)))
def m_Board___str__ : List T → VH → Res T := defM 1 1 s_Board___str__

def s_Stand___repr__ : MS := (sRet (eJoin [(eK (.str "Stand with ")), (eFmt (eOp bSub (eOp bSub (eFld 0 1 (eFld 1 0 (eVar 0))) (eCall fLen (aCons (eFld 1 1 (eVar 0)) aNil))) (eCall fLen (aCons (eFld 1 2 (eVar 0)) aNil)))), (eK (.str " free cells"))]))
def m_Stand___repr__ : List T → VH → Res T := defM 1 1 s_Stand___repr__

def s_Stand_is_made : MS := (sRet (eCall fAny (aCons (eL (mLc (iSeqC (eFld 0 2 (eFld 1 0 (eVar 0)))) [1] (mgName 1) bYes (eAnd (eCall m_is_live (aCons (eVar 1) (aCons (eFld 1 2 (eVar 0)) aNil))) (eOp bEq (eCall m_rest_of (aCons (eVar 1) (aCons (eFld 1 1 (eVar 0)) aNil))) (eTup aNil))))) aNil)))
def m_Stand_is_made : List T → VH → Res T := defM 2 1 s_Stand_is_made

def s_Stand_live : MS := (sRet (eCall fTuple (aCons (eL (mLc (iEnumM (aCons (eFld 0 2 (eFld 1 0 (eVar 0))) aNil)) [1, 2] (mgTup 2 (mgsCons (mgName 1) (mgsCons (mgName 2) mgsNil))) (bTest (eCall m_is_live (aCons (eVar 2) (aCons (eFld 1 2 (eVar 0)) aNil)))) (eVar 1))) aNil)))
def m_Stand_live : List T → VH → Res T := defM 3 1 s_Stand_live

def s_law_is : MS := (sSeq (sSet 5 (eCall fTuple (aCons (eL (mLc (iRange1 (aCons (eVar 1) aNil)) [6] (mgName 6) (bAnd (bTest (eOp bNin (eVar 6) (eVar 3))) (bTest (eOp bNin (eVar 6) (eVar 4)))) (eVar 6))) aNil)))
  (sSeq (sSet 7 (eCall m_law_rests (aCons (eVar 2) (aCons (eVar 3) (aCons (eVar 4) aNil)))))
  (sSeq (sSet 8 (eL (aLim (aCons (eCall (fOwn1 0 m_Board___str__) (aCons (eProp 1 m_Stand_board (eVar 0)) aNil)) (aCons (eProp 1 m_Stand_first (eVar 0)) (aCons (eProp 1 m_Stand_second (eVar 0)) (aCons (eProp 1 m_Stand_free (eVar 0)) (aCons (eProp 1 m_Stand_live (eVar 0)) (aCons (eProp 1 m_Stand_rests (eVar 0)) (aCons (eProp 1 m_Stand_is_made (eVar 0)) (aCons (eCall (fOwn1 1 m_Stand___repr__) (aCons (eVar 0) aNil)) aNil)))))))))))
  (sSeq (sSet 9 (eL (aLim (aCons (eCall m_law_word_of (aCons (eVar 1) (aCons (eVar 2) aNil))) (aCons (eVar 3) (aCons (eVar 4) (aCons (eVar 5) (aCons (eCall fTuple (aCons (eL (mLc (iSeqC (eVar 7)) [10] (mgName 10) bYes (eOp bIx (eVar 10) (eK (.int 0))))) aNil)) aNil))))))))
  (sSeq (sSet 9 (eOp bAdd (eVar 9) (eL (aLim (aCons (eCall fTuple (aCons (eL (mLc (iSeqC (eVar 7)) [10] (mgName 10) bYes (eOp bIx (eVar 10) (eK (.int 1))))) aNil)) (aCons (eOp bIn (eTup aNil) (eL (mLc (iSeqC (eVar 7)) [10] (mgName 10) bYes (eOp bIx (eVar 10) (eK (.int 1)))))) aNil))))))
  (sRet (eOp bEq (eCall fRepr (aCons (eOp bAdd (eVar 8) (eL (aLim (aCons (eCall (fBoolO 1) (aCons (eVar 0) aNil)) aNil)))) aNil)) (eCall fRepr (aCons (eOp bAdd (eVar 9) (eL (aLim (aCons (eOp bAdd (eOp bAdd (eK (.str "Stand with ")) (eCall fStr (aCons (eCall fLen (aCons (eVar 5) aNil)) aNil))) (eK (.str " free cells"))) (aCons (eK (.bl true)) aNil))))) aNil)))))))))
def m_law_is : List T → VH → Res T := defM 11 5 s_law_is

def s_law_pick : MS := (sRet (eOp bIx (eVar 1) (eCall m_law_draw (aCons (eVar 0) (aCons (eCall fLen (aCons (eVar 1) aNil)) aNil)))))
def m_law_pick : List T → VH → Res T := defM 2 2 s_law_pick

def s_law_right : MS := (sSeq (sFor (iRange1 (aCons (eK (.int 3)) aNil)) (mgName 1) (sSeq (sAsg (eCall m_law_board (aCons (eVar 0) aNil)) (mgTup 2 (mgsCons (mgName 2) (mgsCons (mgName 3) mgsNil))))
  (sSeq (sSet 4 (eCall (cutM (makeM 0 m_Board___init__)) (aCons (eCall m_law_word_of (aCons (eVar 2) (aCons (eVar 3) aNil))) aNil)))
  (sSeq (sAsg (eCall m_law_hands (aCons (eVar 0) (aCons (eVar 2) (aCons (eK (.int 3)) aNil)))) (mgTup 2 (mgsCons (mgName 5) (mgsCons (mgName 6) mgsNil))))
  (sSeq (sSet 7 (eIf (bTest (eOp bEq (eVar 1) (eK (.int 0)))) (eCall (cutM (makeM 1 m_Stand___init__)) (aPerm [2, 1, 0] (aCons (eVar 6) (aCons (eVar 5) (aCons (eVar 4) aNil))))) (eCall (cutM (makeM 1 m_Stand___init__)) (aCons (eVar 4) (aCons (eVar 5) (aCons (eVar 6) aNil))))))
  (sSeq (sIf (bOr (bNot (bTest (eCall m_law_is (aCons (eVar 7) (aCons (eVar 2) (aCons (eVar 3) (aCons (eVar 5) (aCons (eVar 6) aNil)))))))) (bTest (eOp (bEqO 1 true m_Stand___eq__) (eVar 7) (eCall (cutM (makeM 1 m_Stand___init__)) (aCons (eVar 4) (aCons (eVar 5) (aCons (eVar 6) aNil))))))) (sRet (eK (.bl false))) sNil)
  (sSeq (sFor (iRange1 (aCons (eK (.int 6)) aNil)) (mgName 8) (sSeq (sSet 9 (eL (mLc (iRange1 (aCons (eVar 2) aNil)) [10] (mgName 10) (bAnd (bTest (eOp bNin (eVar 10) (eVar 5))) (bTest (eOp bNin (eVar 10) (eVar 6)))) (eVar 10))))
  (sSeq (sIf (bTest (eOp bEq (eVar 9) (eL (aLim aNil)))) sBrk sNil)
  (sSeq (sPar 10 11 (aCons (eCall m_law_pick (aCons (eVar 0) (aCons (eVar 9) aNil))) (aCons (eCall m_law_pick (aCons (eVar 0) (aCons (eL (aLim (aCons (eK (.str "first")) (aCons (eK (.str "second")) aNil)))) aNil))) aNil)))
  (sSeq (sSet 12 (eIf (bTest (eOp bGt (eVar 8) (eK (.int 0)))) (eMeth 1 m_Stand_taken (eVar 7) (aCons (eVar 11) (aCons (eVar 10) aNil))) (eMeth 1 m_Stand_taken (eVar 7) (aPerm [1, 0] (aCons (eVar 10) (aCons (eVar 11) aNil))))))
  (sSeq (sIf (bOr (bNot (bTest (eCall m_law_is (aCons (eVar 7) (aCons (eVar 2) (aCons (eVar 3) (aCons (eVar 5) (aCons (eVar 6) aNil)))))))) (bTest (eOp (bEqO 1 false m_Stand___eq__) (eVar 12) (eVar 7)))) (sRet (eK (.bl false))) sNil)
  (sSeq (sIf (bTest (eOp bEq (eVar 11) (eK (.str "first")))) (sSet 5 (eCall fTuple (aCons (eL (mCall fSortedS (aCons (eOp bAdd (eVar 5) (eTup (aCons (eVar 10) aNil))) aNil))) aNil))) (sSet 6 (eCall fTuple (aCons (eL (mCall fSortedS (aCons (eOp bAdd (eVar 6) (eTup (aCons (eVar 10) aNil))) aNil))) aNil))))
  (sSeq (sSet 7 (eVar 12))
  (sIf (bNot (bTest (eCall m_law_is (aCons (eVar 7) (aCons (eVar 2) (aCons (eVar 3) (aCons (eVar 5) (aCons (eVar 6) aNil)))))))) (sRet (eK (.bl false))) sNil)))))))))
  (sSeq (sIf (bAnd (bTest (eOp bNe (eVar 5) (eVar 6))) (bOr (bTest (eOp (bEqO 1 false m_Stand___eq__) (eVar 7) (eCall (cutM (makeM 1 m_Stand___init__)) (aCons (eVar 4) (aCons (eVar 6) (aCons (eVar 5) aNil)))))) (bNot (bTest (eOp (bEqO 1 true m_Stand___eq__) (eVar 7) (eCall (cutM (makeM 1 m_Stand___init__)) (aCons (eVar 4) (aCons (eVar 6) (aCons (eVar 5) aNil))))))))) (sRet (eK (.bl false))) sNil)
  (sFor (iSeqC (eL (aLim (aCons (eK .non) (aCons (eK (.int 0)) (aCons (eVar 5) (aCons (eL (aLim (aCons (eVar 7) aNil))) (aCons (eVar 4) (aCons eDNew aNil))))))))) (mgName 13) (sIf (bOr (bTest (eOp (bEqO 1 false m_Stand___eq__) (eVar 7) (eVar 13))) (bNot (bTest (eOp (bEqO 1 true m_Stand___eq__) (eVar 7) (eVar 13))))) (sRet (eK (.bl false))) sNil))))))))))
  (sRet (eK (.bl true))))
def m_law_right : List T → VH → Res T := defM 14 1 s_law_right

def s_law : MS := (sRet (eCall fAll (aCons (eL (mLc (iRange1 (aCons (eCall fMax2 (aCons (eK (.int 2)) (aCons (eCall fMin2 (aCons (eCall fLen (aCons (eVar 0) aNil)) (aCons (eK (.int 4)) aNil))) aNil))) aNil)) [1] (mgName 1) bYes (eCall m_law_right (aCons (eCall m_law_purse (aCons (eVar 0) (aCons (eVar 1) aNil))) aNil)))) aNil)))
def m_law : List T → VH → Res T := defM 2 1 s_law

end K06

set_option Elab.async false
set_option linter.all false
set_option maxRecDepth 100000
set_option maxHeartbeats 4000000
namespace K02
open K13
open K06
open PySem L2 TL
def s_Board___repr__ : MS := (sRet (eJoin [(eK (.str "Board of ")), (eFmt (eFld 0 1 (eVar 0))), (eK (.str " cells"))]))
def m_Board___repr__ : List T → VH → Res T := defM 1 1 s_Board___repr__

def s_shared : MS := (sRet (eL (mLc (iSeqC (eVar 0)) [2] (mgName 2) (bTest (eOp bIn (eVar 2) (eVar 1))) (eVar 2))))
def m_shared : List T → VH → Res T := defM 3 2 s_shared

def s_Board_is_thin : MS := (sRet (eNot (eCall fAny (aCons (eL (mLc2 (iEnumM (aCons (eFld 0 2 (eVar 0)) aNil)) [1, 2, 3] (mgTup 2 (mgsCons (mgName 1) (mgsCons (mgName 2) mgsNil))) bYes (iSeqC (eSl (eFld 0 2 (eVar 0)) oNo (oSome (eVar 1)))) [3] (mgName 3) bYes (eOp bGt (eCall fLen (aCons (eCall m_shared (aCons (eVar 2) (aCons (eVar 3) aNil))) aNil)) (eK (.int 1))))) aNil))))
def m_Board_is_thin : List T → VH → Res T := defM 4 1 s_Board_is_thin

def s_Board_lines : MS := (sRet (eCall fTuple (aCons (eFld 0 2 (eVar 0)) aNil)))
def m_Board_lines : List T → VH → Res T := defM 1 1 s_Board_lines

def s_law_right : MS := (sSeq (sSet 1 (eH (mCat (eL (mLc (iRange1 (aCons (eK (.int 4)) aNil)) [2] (mgName 2) bYes (eCall m_law_board (aCons (eVar 0) aNil)))) (eL (aLim (aCons (eTup (aCons (eK (.int 1)) (aCons (eL (aLim aNil)) aNil))) (aCons (eTup (aCons (eK (.int 1)) (aCons (eL (aLim (aCons (eTup (aCons (eK (.int 0)) aNil)) aNil))) aNil))) (aCons (eTup (aCons (eK (.int 30)) (aCons (eL (mLc (iRange1 (aCons (eK (.int 30)) aNil)) [3] (mgName 3) bYes (eTup (aCons (eVar 3) aNil)))) aNil))) aNil))))))))
  (sSeq (sSet 1 (eH (mCat (eVar 1) (eL (aLim (aCons (eTup (aCons (eK (.int 30)) (aCons (eL (aLim (aCons (eCall fTuple (aCons (eL (mRg1 (eK (.int 30)))) aNil)) aNil))) aNil))) (aCons (eTup (aCons (eK (.int 2)) (aCons (eL (aLim aNil)) aNil))) aNil)))))))
  (sSeq (sExpr (eMt "list" mAppend (eVar 1) (aCons (eOp bIx (eVar 1) (eK (.int 0))) aNil)))
  (sSeq (sSet 4 (eL (mLc (iSeqC (eVar 1)) [5, 6] (mgTup 2 (mgsCons (mgName 5) (mgsCons (mgName 6) mgsNil))) bYes (eCall m_law_word_of (aCons (eVar 5) (aCons (eVar 6) aNil))))))
  (sSeq (sSet 7 (eL (mLc (iSeqC (eVar 4)) [8] (mgName 8) bYes (eIf (bTest (eOp bEq (eCall m_law_draw (aCons (eVar 0) (aCons (eK (.int 2)) aNil))) (eK (.int 0)))) (eCall (cutM (makeM 0 m_Board___init__)) (aCons (eVar 8) aNil)) (eCall (cutM (makeM 0 m_Board___init__)) (aPerm [0] (aCons (eVar 8) aNil)))))))
  (sSeq (sFor (iRange1 (aCons (eK (.int 2)) aNil)) (mgName 2) (sFor (iZip3M (aCons (eVar 7) (aCons (eVar 1) (aCons (eVar 4) aNil)))) (mgTup 3 (mgsCons (mgName 9) (mgsCons (mgName 10) (mgsCons (mgName 8) mgsNil)))) (sSeq (sAsg (eVar 10) (mgTup 2 (mgsCons (mgName 5) (mgsCons (mgName 6) mgsNil))))
  (sSeq (sSet 11 (eK (.int 0)))
  (sSeq (sFor (iEnumM (aCons (eVar 6) aNil)) (mgTup 2 (mgsCons (mgName 3) (mgsCons (mgName 12) mgsNil))) (sSet 11 (eCall fMax (aCons (eOp bAdd (eL (aLim (aCons (eVar 11) aNil))) (eL (mLc (iSeqC (eSl (eVar 6) oNo (oSome (eVar 3)))) [13] (mgName 13) bYes (eCall fLen (aCons (eL (mLc (iSeqC (eVar 12)) [14] (mgName 14) (bTest (eOp bIn (eVar 14) (eVar 13))) (eVar 14))) aNil))))) aNil))))
  (sSeq (sSet 15 (eL (aLim (aCons (eProp 0 m_Board_text (eVar 9)) (aCons (eProp 0 m_Board_size (eVar 9)) (aCons (eProp 0 m_Board_lines (eVar 9)) (aCons (eProp 0 m_Board_is_thin (eVar 9)) (aCons (eCall (fOwn1 0 m_Board___str__) (aCons (eVar 9) aNil)) (aCons (eCall (fOwn1 0 m_Board___repr__) (aCons (eVar 9) aNil)) (aCons (eCall (fBoolO 0) (aCons (eVar 9) aNil)) aNil))))))))))
  (sSeq (sSet 16 (eL (aLim (aCons (eVar 8) (aCons (eVar 5) (aCons (eCall fTuple (aCons (eVar 6) aNil)) (aCons (eOp bLt (eVar 11) (eK (.int 2))) (aCons (eVar 8) (aCons (eOp bAdd (eOp bAdd (eK (.str "Board of ")) (eCall fStr (aCons (eVar 5) aNil))) (eK (.str " cells"))) (aCons (eK (.bl true)) aNil))))))))))
  (sSeq (sIf (bTest (eOp bNe (eCall fRepr (aCons (eVar 15) aNil)) (eCall fRepr (aCons (eVar 16) aNil)))) (sRet (eK (.bl false))) sNil)
  (sSeq (sIf (bTest (eOp bNe (eL (mLc (iSeqC (eVar 7)) [17] (mgName 17) bYes (eOp (bEqO 0 false m_Board___eq__) (eVar 9) (eVar 17)))) (eL (mLc (iSeqC (eVar 4)) [17] (mgName 17) bYes (eOp bEq (eVar 8) (eVar 17)))))) (sRet (eK (.bl false))) sNil)
  (sSeq (sIf (bTest (eOp bNe (eL (mLc (iSeqC (eVar 7)) [17] (mgName 17) bYes (eOp (bEqO 0 true m_Board___eq__) (eVar 9) (eVar 17)))) (eL (mLc (iSeqC (eVar 4)) [17] (mgName 17) bYes (eOp bNe (eVar 8) (eVar 17)))))) (sRet (eK (.bl false))) sNil)
  (sFor (iSeqC (eL (aLim (aCons (eK .non) (aCons (eK (.int 0)) (aCons (eVar 8) (aCons (eTup (aCons (eVar 8) aNil)) (aCons (eL (aLim (aCons (eVar 9) aNil))) (aCons eDNew (aCons (eK (.bl true)) aNil)))))))))) (mgName 18) (sIf (bOr (bTest (eOp (bEqO 0 false m_Board___eq__) (eVar 9) (eVar 18))) (bNot (bTest (eOp (bEqO 0 true m_Board___eq__) (eVar 9) (eVar 18))))) (sRet (eK (.bl false))) sNil))))))))))))
  (sRet (eK (.bl true)))))))))
def m_law_right : List T → VH → Res T := defM 19 1 s_law_right

def s_law : MS := (sRet (eCall fAll (aCons (eL (mLc (iRange1 (aCons (eCall fMax2 (aCons (eK (.int 2)) (aCons (eCall fMin2 (aCons (eCall fLen (aCons (eVar 0) aNil)) (aCons (eK (.int 4)) aNil))) aNil))) aNil)) [1] (mgName 1) bYes (eCall m_law_right (aCons (eCall m_law_purse (aCons (eVar 0) (aCons (eVar 1) aNil))) aNil)))) aNil)))
def m_law : List T → VH → Res T := defM 2 1 s_law

end K02

set_option Elab.async false
set_option linter.all false
set_option maxRecDepth 100000
set_option maxHeartbeats 4000000
namespace K02
open K13
open K06
open PySem PySem.Spec L2 TL
def top (i : Nat) : Stmt := PySem.Challenge.pw_pairheld_k02_boards_made.main.body.getD i (.Pass ⟨0, 0, 0, 0⟩)
def mth (i j : Nat) : Stmt := match top i with
  | .ClassDef _ _ _ b _ _ _ _ _ _ _ => b.getD j (.Pass ⟨0, 0, 0, 0⟩)
  | _ => .Pass ⟨0, 0, 0, 0⟩
def cl : ClT := [(0, "Board", ["written", "many", "rows"])]
def wd (K : PySem.W.Frag) : Wd := wdOf cl K
theorem fn_lt_Board {K : PySem.W.Frag} : ((wd K).fn 0).length < 1000 := (show (["written", "many", "rows"] : List Str).length < 1000 by decide)
theorem fn_nd_Board {K : PySem.W.Frag} : ((wd K).fn 0).Nodup := (show (["written", "many", "rows"] : List Str).Nodup by decide)
open PyProof.Rows
def fa0 : List He.Fa := [.free "abs", .free "all", .free "any", .free "bool", .free "divmod", .free "enumerate", .free "int", .free "isinstance", .free "len", .free "list", .free "max", .free "min", .free "range", .free "repr", .free "set", .free "sorted", .free "str", .free "tuple", .free "zip", .glo "_law_purse", .glo "number_in", .glo "line_in", .glo "lines_in", .glo "board_in", .glo "shared", .glo "_law_draw", .glo "_law_rows", .glo "_law_board", .glo "_law_word_of", .glo "_law_right"]
def fa1 : List He.Fa := [.glo "law", .glo "Board", .cls "Board", .mkr "Board", .noat "Board" "many", .noat "Board" "rows", .noat "Board" "written", .meth "Board" "__eq__", .meth "Board" "__repr__", .meth "Board" "__str__", .str "DIGITS" "0123456789", .int "MOST_CELLS" 30, .int "MOST_LINES" 30]
def fa : List He.Fa := fa0 ++ fa1
def ts : List He.Tab := []
def pr_Board_text : PrD := ⟨"Board", "text", "Board.text", defArgs (mth 17 1), defBody (mth 17 1), defScope (mth 17 1)⟩
def pr_Board_is_thin : PrD := ⟨"Board", "is_thin", "Board.is_thin", defArgs (mth 17 4), defBody (mth 17 4), defScope (mth 17 4)⟩
def pr_Board_lines : PrD := ⟨"Board", "lines", "Board.lines", defArgs (mth 17 3), defBody (mth 17 3), defScope (mth 17 3)⟩
def pr_Board_size : PrD := ⟨"Board", "size", "Board.size", defArgs (mth 17 2), defBody (mth 17 2), defScope (mth 17 2)⟩
def prs : List PrD := [pr_Board_text, pr_Board_is_thin, pr_Board_lines, pr_Board_size]
def exs (K : PySem.W.Frag) : List Bool := [cfB K (He.ga K "Board"), isiChk cl K (.ref (He.ga K "Board")) (.o 0), isiChk cl K (.type "str") (.b "str"), nfChk cl K (He.ga K "Board"), neB K (He.ga K "Board"), plB K (He.ga K "Board"), prB K pr_Board_text, prB K pr_Board_is_thin, prB K pr_Board_lines, prB K pr_Board_size]
def ex (K : PySem.W.Frag) : Bool := (exs K).all id
def d_law_purse : He.DefD := ⟨("_law_purse", none), "_law_purse", "_law_purse", defArgs (top 21), defBody (top 21), defScope (top 21), [], []⟩
def d_Board___eq__ : He.DefD := ⟨("Board", some "__eq__"), "__eq__", "Board.__eq__", defArgs (mth 17 11), defBody (mth 17 11), defScope (mth 17 11), [], []⟩
def d_number_in : He.DefD := ⟨("number_in", none), "number_in", "number_in", defArgs (top 11), defBody (top 11), defScope (top 11), [], []⟩
def d_line_in : He.DefD := ⟨("line_in", none), "line_in", "line_in", defArgs (top 13), defBody (top 13), defScope (top 13), [], []⟩
def d_lines_in : He.DefD := ⟨("lines_in", none), "lines_in", "lines_in", defArgs (top 14), defBody (top 14), defScope (top 14), [], []⟩
def d_board_in : He.DefD := ⟨("board_in", none), "board_in", "board_in", defArgs (top 15), defBody (top 15), defScope (top 15), [], []⟩
def d_Board___init__ : He.DefD := ⟨("Board", some "__init__"), "__init__", "Board.__init__", defArgs (mth 17 0), defBody (mth 17 0), defScope (mth 17 0), [], []⟩
def d_Board___repr__ : He.DefD := ⟨("Board", some "__repr__"), "__repr__", "Board.__repr__", defArgs (mth 17 10), defBody (mth 17 10), defScope (mth 17 10), [], []⟩
def d_Board___str__ : He.DefD := ⟨("Board", some "__str__"), "__str__", "Board.__str__", defArgs (mth 17 9), defBody (mth 17 9), defScope (mth 17 9), [], []⟩
def d_shared : He.DefD := ⟨("shared", none), "shared", "shared", defArgs (top 18), defBody (top 18), defScope (top 18), [], []⟩
def d_law_draw : He.DefD := ⟨("_law_draw", none), "_law_draw", "_law_draw", defArgs (top 22), defBody (top 22), defScope (top 22), [], []⟩
def d_law_rows : He.DefD := ⟨("_law_rows", none), "_law_rows", "_law_rows", defArgs (top 23), defBody (top 23), defScope (top 23), [], []⟩
def d_law_board : He.DefD := ⟨("_law_board", none), "_law_board", "_law_board", defArgs (top 25), defBody (top 25), defScope (top 25), [], []⟩
def d_law_word_of : He.DefD := ⟨("_law_word_of", none), "_law_word_of", "_law_word_of", defArgs (top 24), defBody (top 24), defScope (top 24), [], []⟩
def d_law_right : He.DefD := ⟨("_law_right", none), "_law_right", "_law_right", defArgs (top 26), defBody (top 26), defScope (top 26), [], []⟩
def d_law : He.DefD := ⟨("law", none), "law", "law", defArgs (top 27), defBody (top 27), defScope (top 27), [], []⟩
def fn0 : List He.DefD := [d_law_purse, d_Board___eq__, d_number_in, d_line_in, d_lines_in, d_board_in, d_Board___init__, d_Board___repr__, d_Board___str__, d_shared, d_law_draw, d_law_rows, d_law_board, d_law_word_of, d_law_right, d_law]
def fn : List He.DefD := fn0
abbrev R : PySem.W.OpenRow := PySem.W.OpenLaw.row PySem.Challenge.rw_pairheld_k02_boards_made
abbrev hk : PySem.W.Hook := hookP 5 fa fn ts [] ex prs
def ob (s : PySem.W.SharedT) : He.AlX × List FnV := obsP 5 fa fn ts [] ex prs (HandSHeadRun.getT s)
theorem ob_eq (s : PySem.W.SharedT) : ob s = hk.obs s.abs := obsP_eq (HandSHeadRun.getT_eq s)
def lo0 : List Str := ["_wall", "__name__", "WrongValue", "InvalidText", "InvalidIndex", "MOST_CELLS", "MOST_LINES", "DIGITS", "is_integer", "is_between", "number_in", "line_in", "lines_in", "board_in", "board_text", "Board", "shared", "check_index", "_law_purse", "_law_draw", "_law_rows", "_law_word_of", "_law_board", "_law_right"]
def lo : List Str := lo0
set_option maxHeartbeats 0 in
theorem run_f (w : World) : HandSHeadRun.RunEq R (PySem.W.view R.prog [27]) hk ob 8000 lo (w.withFollow "special-get-raises" false) := by intro os; kernel_rfl
set_option maxHeartbeats 0 in
theorem run_t (w : World) : HandSHeadRun.RunEq R (PySem.W.view R.prog [27]) hk ob 8000 lo (w.withFollow "special-get-raises" true) := by intro os; kernel_rfl
theorem run (w : World) : HandSHeadRun.RunEq R (PySem.W.view R.prog [27]) hk ob 8000 lo w :=
  PySem.W.byRow2 "special-get-raises" (P := fun w => HandSHeadRun.RunEq R (PySem.W.view R.prog [27]) hk ob 8000 lo w) run_f run_t w
end K02

set_option Elab.async false
set_option linter.all false
set_option maxRecDepth 100000
set_option maxHeartbeats 4000000
namespace KG
/-! ### gaps along a direction -/
def Gap (S : Int → Int → Prop) (dx dy x y : Int) (m : Nat) : Prop := 0 < m ∧ S x y ∧ S (x + m * dx) (y + m * dy) ∧ ∀ j : Nat, 0 < j → j < m → ¬ S (x + j * dx) (y + j * dy)
def IsL (S : Int → Int → Prop) (dx dy : Int) : Option Nat → Prop
  | none => ∃ x y, ∀ k : Int, ¬ S (x + k * dx) (y + k * dy)
  | some M => (∀ x y, ∃ k : Int, S (x + k * dx) (y + k * dy)) ∧ (∃ x y, Gap S dx dy x y M) ∧ ∀ x y m, Gap S dx dy x y m → m ≤ M
theorem IsL.uniq {S : Int → Int → Prop} {dx dy : Int} {r r' : Option Nat} (h : IsL S dx dy r) (h' : IsL S dx dy r') : r = r' := by
  cases r with
  | none =>
    cases r' with
    | none => rfl
    | some M =>
      obtain ⟨x, y, n⟩ := h
      obtain ⟨k, hk⟩ := h'.1 x y
      exact (n k hk).elim
  | some M =>
    cases r' with
    | none =>
      obtain ⟨x, y, n⟩ := h'
      obtain ⟨k, hk⟩ := h.1 x y
      exact (n k hk).elim
    | some M' =>
      obtain ⟨_, ⟨x, y, g⟩, u⟩ := h
      obtain ⟨_, ⟨x', y', g'⟩, u'⟩ := h'
      have a := u' x y M g
      have b := u x' y' M' g'
      have : M = M' := by omega
      rw [this]
/-- the same, seen through a change of places -/
theorem IsL.map {S S' : Int → Int → Prop} {dx dy dx' dy' : Int} (p q : Int → Int → Int) (hS : ∀ x y, S' x y ↔ S (p x y) (q x y)) (h1 : ∀ x y k, p (x + k * dx') (y + k * dy') = p x y + k * dx) (h2 : ∀ x y k, q (x + k * dx') (y + k * dy') = q x y + k * dy)
    (sur : ∀ u v, ∃ x y, p x y = u ∧ q x y = v) {r : Option Nat} (h : IsL S' dx' dy' r) : IsL S dx dy r := by
  have gp : ∀ x y m, Gap S' dx' dy' x y m ↔ Gap S dx dy (p x y) (q x y) m := fun x y m => by
    unfold Gap
    simp only [hS, h1, h2]
  cases r with
  | none =>
    obtain ⟨x, y, n⟩ := h
    refine ⟨p x y, q x y, fun k => ?_⟩
    rw [← h1, ← h2, ← hS]
    exact n k
  | some M =>
    obtain ⟨a, ⟨x, y, g⟩, u⟩ := h
    refine ⟨fun s t => ?_, ⟨p x y, q x y, (gp x y M).mp g⟩, fun s t m hg => ?_⟩
    · obtain ⟨x, y, rfl, rfl⟩ := sur s t
      obtain ⟨k, hk⟩ := a x y
      exact ⟨k, by rw [← h1, ← h2, ← hS]; exact hk⟩
    · obtain ⟨x, y, rfl, rfl⟩ := sur s t
      exact u x y m ((gp x y m).mpr hg)
/-- the other way along -/
theorem Gap.rev {S : Int → Int → Prop} {dx dy x y : Int} {m : Nat} (g : Gap S dx dy x y m) : Gap S (-dx) (-dy) (x + m * dx) (y + m * dy) m := by
  obtain ⟨h0, h1, h2, h3⟩ := g
  have e : ∀ (u v : Int) (j : Nat), u + m * v + j * -v = u + ((m : Int) - j) * v := fun u v j => by
    rw [Int.sub_mul, Int.mul_neg]; omega
  refine ⟨h0, h2, ?_, fun j j0 j1 => ?_⟩
  · rw [e, e, Int.sub_self, Int.zero_mul, Int.zero_mul, Int.add_zero, Int.add_zero]
    exact h1
  · rw [e, e]
    have : (m : Int) - j = ((m - j : Nat) : Int) := by omega
    rw [this]
    exact h3 (m - j) (by omega) (by omega)
theorem IsL.rev {S : Int → Int → Prop} {dx dy : Int} {r : Option Nat} (h : IsL S dx dy r) : IsL S (-dx) (-dy) r := by
  have e : ∀ (u v k : Int), u + k * -v = u + (-k) * v := fun u v k => by rw [Int.mul_neg, Int.neg_mul]
  cases r with
  | none =>
    obtain ⟨x, y, n⟩ := h
    exact ⟨x, y, fun k => by rw [e, e]; exact n (-k)⟩
  | some M =>
    obtain ⟨a, ⟨x, y, g⟩, u⟩ := h
    refine ⟨fun s t => ?_, ⟨_, _, g.rev⟩, fun s t m hg => ?_⟩
    · obtain ⟨k, hk⟩ := a s t
      exact ⟨-k, by rw [e, e, Int.neg_neg]; exact hk⟩
    · have g' := hg.rev
      rw [Int.neg_neg, Int.neg_neg] at g'
      exact u _ _ m g'
/-! ### what stands next in a filtered row of numbers -/
def nexts : List Nat → Nat → List (Nat × Nat)
  | [], _ => []
  | [a], e => [(a, e)]
  | a :: b :: r, e => (a, b) :: nexts (b :: r) e
theorem nexts_zip (e : Nat) : ∀ l : List Nat, List.zip l (l.drop 1 ++ [e]) = nexts l e
  | [] => rfl
  | [a] => rfl
  | a :: b :: r => by
    have := nexts_zip e (b :: r)
    simp only [List.drop_succ_cons, List.drop_zero, List.cons_append, List.zip_cons_cons, nexts] at this ⊢
    rw [this]
theorem head_low {P : Nat → Bool} : ∀ (m s a : Nat) (r : List Nat), (List.range' s m).filter P = a :: r → s ≤ a ∧ a < s + m ∧ P a = true ∧ ∀ j, s ≤ j → j < a → P j = false
  | 0, s, a, r, h => by simp at h
  | m + 1, s, a, r, h => by
    rw [List.range'_succ, List.filter_cons] at h
    cases hp : P s with
    | true =>
      rw [if_pos hp] at h
      injection h with h1 h2
      subst h1
      exact ⟨Nat.le_refl _, by omega, hp, fun j a b => by omega⟩
    | false =>
      rw [if_neg (by rw [hp]; exact Bool.false_ne_true)] at h
      obtain ⟨h1, h2, h3, h4⟩ := head_low m (s + 1) a r h
      refine ⟨by omega, by omega, h3, fun j j1 j2 => ?_⟩
      by_cases q : j = s
      · rw [q]; exact hp
      · exact h4 j (by omega) j2
theorem none_low {P : Nat → Bool} {m s : Nat} (h : (List.range' s m).filter P = []) {j : Nat} (h1 : s ≤ j) (h2 : j < s + m) : P j = false := by
  rw [List.filter_eq_nil_iff] at h
  have := h j (by rw [List.mem_range'_1]; omega)
  simpa using this
theorem nexts_ok {P : Nat → Bool} (e : Nat) (he : P e = true) : ∀ (m s : Nat), s + m ≤ e → (∀ j, s + m ≤ j → j < e → P j = false) → ∀ a b, (a, b) ∈ nexts ((List.range' s m).filter P) e → a < b ∧ P a = true ∧ P b = true ∧ ∀ j, a < j → j < b → P j = false
  | 0, s, _, _, a, b, h => by simp [nexts] at h
  | m + 1, s, hle, hno, a, b, h => by
    have ih := nexts_ok e he m (s + 1) (by omega) (fun j j1 j2 => hno j (by omega) j2)
    rw [List.range'_succ, List.filter_cons] at h
    cases hp : P s with
    | false =>
      rw [if_neg (by rw [hp]; exact Bool.false_ne_true)] at h
      exact ih a b h
    | true =>
      rw [if_pos hp] at h
      cases q : (List.range' (s + 1) m).filter P with
      | nil =>
        rw [q] at h
        simp only [nexts, List.mem_singleton, Prod.mk.injEq] at h
        obtain ⟨rfl, rfl⟩ := h
        refine ⟨by omega, hp, he, fun j j1 j2 => ?_⟩
        by_cases z : j < a + 1 + m
        · exact none_low q (by omega) z
        · exact hno j (by omega) j2
      | cons c r =>
        rw [q] at h
        simp only [nexts, List.mem_cons, Prod.mk.injEq] at h
        rcases h with ⟨rfl, rfl⟩ | h
        · obtain ⟨h1, h2, h3, h4⟩ := head_low m (a + 1) b r q
          exact ⟨by omega, hp, h3, fun j j1 j2 => h4 j (by omega) j2⟩
        · exact ih a b (by rw [q]; exact h)
theorem nexts_head {l : List Nat} {a e : Nat} {r : List Nat} (h : l = a :: r) : ∃ b, (a, b) ∈ nexts l e := by
  subst h
  cases r with
  | nil => exact ⟨e, by simp [nexts]⟩
  | cons c r => exact ⟨c, by simp [nexts]⟩
end KG

set_option Elab.async false
set_option linter.all false
set_option maxRecDepth 100000
set_option maxHeartbeats 4000000
namespace BD
open PySem L2 TL
/-! ### numbers of one or two figures -/
def numS (n : Nat) : Str := Str.ofString (toString (n : Int))
theorem num_facts : ∀ n : Fin 31, (numS n).length ≤ 2 ∧ 0 < (numS n).length ∧ ((numS n).cps.toList.all fun c => decide (48 ≤ c) && decide (c ≤ 57)) = true ∧ ((numS n).length > 1 → (numS n).cps.toList.head? ≠ some 48) ∧ intText? (numS n) = some ((n : Nat) : Int) := by decide +kernel
theorem num_len {n : Nat} (h : n ≤ 30) : (numS n).length ≤ 2 ∧ 0 < (numS n).length := ⟨(num_facts ⟨n, by omega⟩).1, (num_facts ⟨n, by omega⟩).2.1⟩
theorem num_dig {n : Nat} (h : n ≤ 30) {c : Nat} (hc : c ∈ tl (numS n)) : 48 ≤ c ∧ c ≤ 57 := by
  have := List.all_eq_true.mp (num_facts ⟨n, by omega⟩).2.2.1 c hc
  simpa using this
theorem num_int {n : Nat} (h : n ≤ 30) : intText? (numS n) = some ((n : Nat) : Int) := (num_facts ⟨n, by omega⟩).2.2.2.2
theorem num_zero {n : Nat} (h : n ≤ 30) (l : (numS n).length > 1) : (numS n).cps.toList.head? ≠ some 48 := (num_facts ⟨n, by omega⟩).2.2.2.1 l
theorem fStr_num {n : Nat} (h : n ≤ 30) (k : VH) : fStr [.int (n : Nat)] k = .ok (.str (numS n)) k := by
  have l := num_len h
  unfold fStr
  refine if_pos ⟨?_, ?_⟩
  · rw [Int.natAbs_natCast]
    rcases Nat.lt_or_ge n.log2 1920 with c | c
    · exact c
    · exfalso
      have p : 2 ^ n.log2 ≤ n := Nat.log2_self_le (by rintro rfl; simp at c)
      have q : 2 ^ 5 ≤ 2 ^ n.log2 := Nat.pow_le_pow_right (by omega) (by omega)
      omega
  · show (numS n).length ≤ 1000000
    omega
theorem fInt_num {n : Nat} (h : n ≤ 30) (k : VH) : fInt [.str (numS n)] k = .ok (.int (n : Nat)) k := by
  have l := num_len h
  simp only [fInt, num_int h]
  exact if_pos (by omega)
/-! ### texts of lines and boards -/
def wordsS (l : List Nat) : Str := Txt.join " " (l.map numS)
def linesS (rows : List (List Nat)) : Str := Txt.join ", " (rows.map wordsS)
def boardS (size : Nat) (rows : List (List Nat)) : Str := Txt.join ":" [numS size, if rows = [] then "" else " " ++ linesS rows]
def lineT (l : List Nat) : T := .tup (l.map fun c => .int (c : Nat))
def rowsLT (rows : List (List Nat)) : T := .lst (rows.map lineT)
/-- a line's cells ascend, and are on the board -/
structure Line (size : Nat) (l : List Nat) : Prop where
  ne : l ≠ []
  asc : l.Pairwise (· < ·)
  lt : ∀ c ∈ l, c < size
structure Rows (size : Nat) (rows : List (List Nat)) : Prop where
  s0 : 0 < size
  s1 : size ≤ 30
  len : rows.length ≤ 30
  line : ∀ l ∈ rows, Line size l
  asc : rows.Pairwise fun a b => W.dataLt (.tuple (a.map fun c => .int (c : Nat))) (.tuple (b.map fun c => .int (c : Nat))) = true
theorem asc_len : ∀ {l : List Nat} {a b : Nat}, l.Pairwise (· < ·) → (∀ c ∈ l, a ≤ c ∧ c < b) → l.length ≤ b - a
  | [], _, _, _, _ => Nat.zero_le _
  | x :: l, a, b, p, h => by
    rw [List.pairwise_cons] at p
    have hx := h x List.mem_cons_self
    have := asc_len (a := x + 1) (b := b) p.2 fun c hc => ⟨p.1 c hc, (h c (List.mem_cons_of_mem _ hc)).2⟩
    simp only [List.length_cons]
    omega
theorem Line.len {size : Nat} {l : List Nat} (L : Line size l) : l.length ≤ size := by
  have := asc_len (a := 0) (b := size) L.asc fun c hc => ⟨Nat.zero_le _, L.lt c hc⟩
  omega
theorem mem_join {c : Nat} (y : Str) : ∀ {ps : List Str}, c ∈ tl (Txt.join y ps) → c ∈ tl y ∨ ∃ p ∈ ps, c ∈ tl p := by
  intro ps h
  rw [join_eq] at h
  induction ps with
  | nil => cases h
  | cons x ps ih =>
    cases ps with
    | nil => exact .inr ⟨x, List.mem_cons_self, h⟩
    | cons z ps =>
      have e : Str.join y (x :: z :: ps) = x ++ y ++ Str.join y (z :: ps) := rfl
      rw [e, tl_append, tl_append, List.mem_append, List.mem_append] at h
      rcases h with (h | h) | h
      · exact .inr ⟨x, List.mem_cons_self, h⟩
      · exact .inl h
      · rcases ih h with q | ⟨p, hp, q⟩
        · exact .inl q
        · exact .inr ⟨p, List.mem_cons_of_mem _ hp, q⟩
theorem join_len (y : Str) : ∀ (ps : List Str), (Txt.join y ps).length ≤ (ps.map (·.length)).sum + ps.length * y.length := by
  intro ps
  rw [join_eq]
  induction ps with
  | nil => exact Nat.zero_le _
  | cons x ps ih =>
    cases ps with
    | nil => simp [Str.join]
    | cons z ps =>
      have e : Str.join y (x :: z :: ps) = x ++ y ++ Str.join y (z :: ps) := rfl
      rw [e, TL.len_app, TL.len_app]
      simp only [List.map_cons, List.sum_cons, List.length_cons] at ih ⊢
      rw [Nat.add_mul (ps.length + 1)]
      omega
theorem sum_le {α : Type} {f : α → Nat} {b : Nat} : ∀ {l : List α}, (∀ x ∈ l, f x ≤ b) → (l.map f).sum ≤ l.length * b
  | [], _ => Nat.zero_le _
  | x :: l, h => by
    have h1 := h x List.mem_cons_self
    have h2 := sum_le fun y hy => h y (List.mem_cons_of_mem _ hy)
    simp only [List.map_cons, List.sum_cons, List.length_cons, Nat.add_mul]
    omega
theorem words_sum {size : Nat} {l : List Nat} (s1 : size ≤ 30) (L : Line size l) : ((l.map numS).map (·.length)).sum ≤ 60 := by
  have := sum_le (f := fun x : Str => x.length) (b := 2) (l := l.map numS) fun x hx => by
    obtain ⟨n, hn, rfl⟩ := List.mem_map.mp hx
    have := L.lt n hn
    exact (num_len (by omega)).1
  rw [List.length_map] at this
  have := L.len
  omega
theorem words_len {size : Nat} {l : List Nat} (s1 : size ≤ 30) (L : Line size l) : (wordsS l).length ≤ 90 := by
  have h1 := join_len " " (l.map numS)
  have h2 := words_sum s1 L
  have h3 := L.len
  have e : ((" " : String) : Str).length = 1 := by decide
  rw [List.length_map, e] at h1
  unfold wordsS
  omega
theorem words_mem {size : Nat} {l : List Nat} (s1 : size ≤ 30) (L : Line size l) {c : Nat} (h : c ∈ tl (wordsS l)) : c = 32 ∨ (48 ≤ c ∧ c ≤ 57) := by
  rcases mem_join " " h with q | ⟨p, hp, q⟩
  · have e : tl (" " : String) = [32] := by decide +kernel
    rw [e] at q
    exact .inl (List.mem_singleton.mp q)
  · obtain ⟨n, hn, rfl⟩ := List.mem_map.mp hp
    have := L.lt n hn
    exact .inr (num_dig (by omega) q)
theorem lines_sum {size : Nat} {rows : List (List Nat)} (R : Rows size rows) : ((rows.map wordsS).map (·.length)).sum ≤ 2700 := by
  have := sum_le (f := fun x : Str => x.length) (b := 90) (l := rows.map wordsS) fun x hx => by
    obtain ⟨l, hl, rfl⟩ := List.mem_map.mp hx
    exact words_len R.s1 (R.line l hl)
  rw [List.length_map] at this
  have := R.len
  omega
theorem lines_mem {size : Nat} {rows : List (List Nat)} (R : Rows size rows) {c : Nat} (h : c ∈ tl (linesS rows)) : c = 44 ∨ c = 32 ∨ (48 ≤ c ∧ c ≤ 57) := by
  rcases mem_join ", " h with q | ⟨p, hp, q⟩
  · have e : tl (", " : String) = [44, 32] := by decide +kernel
    rw [e] at q
    simp only [List.mem_cons, List.not_mem_nil, or_false] at q
    omega
  · obtain ⟨l, hl, rfl⟩ := List.mem_map.mp hp
    exact .inr (words_mem R.s1 (R.line l hl) q)
theorem lines_len {size : Nat} {rows : List (List Nat)} (R : Rows size rows) : (linesS rows).length ≤ 2800 := by
  have h1 := join_len ", " (rows.map wordsS)
  have h2 := lines_sum R
  have h3 := R.len
  have e : ((", " : String) : Str).length = 2 := by decide
  rw [List.length_map, e] at h1
  unfold linesS
  omega
/-! ### taken apart -/
theorem split_words {size : Nat} {l : List Nat} (s1 : size ≤ 30) (L : Line size l) : Txt.split (wordsS l) " " = l.map numS := by
  refine split_join (y := (" " : String)) (s := 32) (S := []) (by decide +kernel) (by decide +kernel) (fun z => L.ne (List.map_eq_nil_iff.mp z)) fun p hp => ?_
  obtain ⟨n, hn, rfl⟩ := List.mem_map.mp hp
  have := L.lt n hn
  intro z
  have := num_dig (by omega) z
  omega
theorem split_lines {size : Nat} {rows : List (List Nat)} (R : Rows size rows) (ne : rows ≠ []) : Txt.split (linesS rows) ", " = rows.map wordsS := by
  refine split_join (y := (", " : String)) (s := 44) (S := [32]) (by decide +kernel) (by decide +kernel) (fun z => ne (List.map_eq_nil_iff.mp z)) fun p hp => ?_
  obtain ⟨l, hl, rfl⟩ := List.mem_map.mp hp
  intro z
  have := words_mem R.s1 (R.line l hl) z
  omega
def tailS (rows : List (List Nat)) : Str := if rows = [] then "" else " " ++ linesS rows
theorem tail_mem {size : Nat} {rows : List (List Nat)} (R : Rows size rows) {c : Nat} (h : c ∈ tl (tailS rows)) : c ≠ 58 := by
  unfold tailS at h
  split at h
  · have e : tl ("" : String) = [] := by decide +kernel
    rw [e] at h
    cases h
  · rw [tl_append, List.mem_append] at h
    have e : tl (" " : String) = [32] := by decide +kernel
    rw [e] at h
    rcases h with h | h
    · have := List.mem_singleton.mp h; omega
    · have := lines_mem R h; omega
theorem split_board {size : Nat} {rows : List (List Nat)} (R : Rows size rows) : Txt.split (boardS size rows) ":" = [numS size, tailS rows] := by
  refine split_join (y := (":" : String)) (s := 58) (S := []) (by decide +kernel) (by decide +kernel) (fun z => by cases z) fun p hp => ?_
  intro z
  simp only [List.mem_cons, List.not_mem_nil, or_false] at hp
  rcases hp with rfl | rfl
  · have := num_dig R.s1 z
    omega
  · exact tail_mem R z rfl
theorem count_board {size : Nat} {rows : List (List Nat)} (R : Rows size rows) : Txt.count (boardS size rows) ":" = 1 := by
  have e : (":" : String) = (⟨#[58]⟩ : Str) := by decide +kernel
  have h := split_board R
  rw [e] at h ⊢
  have z := PyProof.Rows.split_len (boardS size rows) 58
  rw [h] at z
  rw [PyProof.Rows.count_cnt]
  simp only [List.length_cons, List.length_nil] at z
  omega
end BD

set_option Elab.async false
set_option linter.all false
set_option maxRecDepth 100000
set_option maxHeartbeats 4000000
namespace BD
open PySem L2 TL K13
def nE : ME := eCall fAll (aCons (eL (mLc (iSeqC (eVar 0)) [2] (mgName 2) bYes (eOp TL.bIn (eVar 2) (eK (.str "0123456789"))))) aNil)
def nT : MB := (TL.bOr (bTest (eOp TL.bEq (eVar 0) (eK (.str "")))) (TL.bOr (TL.bNot (bTest nE)) (TL.bAnd (bTest (eOp TL.bGt (eCall fLen (aCons (eVar 0) aNil)) (eK (.int 1)))) (bTest (eOp TL.bEq (eOp TL.bIx (eVar 0) (eK (.int 0))) (eK (.str "0")))))))
def nR : MS := (sRet (eIf (TL.bAnd (bTest (eOp TL.bLt (eCall fLen (aCons (eVar 0) aNil)) (eK (.int 9)))) (bTest (eOp TL.bLe (eCall fInt (aCons (eVar 0) aNil)) (eVar 1)))) (eCall fInt (aCons (eVar 0) aNil)) (eK .non)))
theorem n_eq : s_number_in = sSeq (sIf nT (sRet (eK .non)) sNil) nR := rfl
theorem number_ok {n : Nat} {m : Int} (hn : n ≤ 30) (hm : (n : Int) ≤ m) (h : VH) : m_number_in [.str (numS n), .int m] h = .ok (.int (n : Nat)) h := by
  obtain ⟨l2, l0⟩ := num_len hn
  obtain ⟨τ, hτ⟩ : ∃ τ, τ = startT 3 [T.str (numS n), .int m] := ⟨_, rfl⟩
  have v0 : eVar 0 τ h = .ok (.str (numS n)) h := by rw [hτ]; rfl
  have v1 : eVar 1 τ h = .ok (.int m) h := by rw [hτ]; rfl
  have nil : aNil τ h = .ok [] h := rfl
  have ka : ∀ t, eK t τ h = .ok t h := fun _ => rfl
  have A := test_ok ((op_ok (b := TL.bEq) v0 (ka (.str ""))).trans (TL.eq_strs _ _ h))
  have ea : (numS n == ("" : String)) = false := by
    rw [W.beq_decide]
    refine decide_eq_false fun e => ?_
    have := congrArg Str.length e
    have z : (("" : String) : Str).length = 0 := by decide
    omega
  rw [ea] at A
  have B : nE τ h = .ok (.bl true) h := by
    have z := mLc_map (mi := iSeqC (eVar 0)) (ws := [2]) (g := mgName 2) (e := eOp TL.bIn (eVar 2) (eK (.str "0123456789"))) (τ := τ) (h := h) (rd := fun h => seqS h (.str (numS n))) (ts := (numS n).cps.toList.map fun c => .str ⟨#[c]⟩)
      (by rw [hτ]; simp [iSeqC, eVar, walkable, seqS, startT]) (by simp [seqS, signsT]) (by rw [List.length_map, Array.length_toList]; unfold Str.length at l2; omega) (fun _ => .bl true) (fun t ht => by
        obtain ⟨c, hc, rfl⟩ := List.mem_map.mp ht
        refine ⟨[some (.str (numS n)), some (.int m), some (.str ⟨#[c]⟩)], by rw [hτ]; rfl, ?_⟩
        have e : TL.bIn (.str ⟨#[c]⟩) (.str "0123456789") h = .ok (.bl (bInS false ⟨#[c]⟩ "0123456789")) h := rfl
        rw [hInS] at e
        have d := num_dig hn (c := c) hc
        have e2 : (("0123456789" : String) : Str).cps.toList = [48, 49, 50, 51, 52, 53, 54, 55, 56, 57] := by decide +kernel
        have e3 : decide (c ∈ (("0123456789" : String) : Str).cps.toList) = true := by
          rw [e2]
          refine decide_eq_true ?_
          simp only [List.mem_cons, List.not_mem_nil, or_false]
          omega
        rw [e3] at e
        exact (op_ok (b := TL.bIn) (rfl : eVar 2 _ h = .ok (.str ⟨#[c]⟩) h) rfl).trans e)
    have a := (call_ok (b := fAll) (cons_ok (eL_ok z) nil)).trans (hAll ((numS n).cps.toList.map fun c => T.str ⟨#[c]⟩) (fun _ => true) h)
    rw [show (((numS n).cps.toList.map fun c => T.str ⟨#[c]⟩).all fun _ => true) = true from List.all_eq_true.mpr fun _ _ => rfl] at a
    exact a
  have C := test_ok ((op_ok (b := TL.bGt) (hLenS v0) (ka (.int 1))).trans (hGt _ _ h))
  have D : TL.bAnd (bTest (eOp TL.bGt (eCall fLen (aCons (eVar 0) aNil)) (eK (.int 1)))) (bTest (eOp TL.bEq (eOp TL.bIx (eVar 0) (eK (.int 0))) (eK (.str "0")))) τ h = .ok false h := by
    have D := hAnd (d := (bTest (eOp TL.bEq (eOp TL.bIx (eVar 0) (eK (.int 0))) (eK (.str "0"))))) (q := false) C fun g1 => by
      have g1 := of_decide_eq_true g1
      have hd := num_zero hn (by omega)
      obtain ⟨c, r, ec⟩ : ∃ c r, (numS n).cps.toList = c :: r := by
        cases e : (numS n).cps.toList with
        | nil =>
          have : (numS n).length = 0 := by unfold Str.length; rw [← Array.length_toList, e]; rfl
          omega
        | cons c r => exact ⟨c, r, rfl⟩
      rw [ec] at hd
      have ix : TL.bIx (.str (numS n)) (.int 0) h = .ok (.str ⟨#[c]⟩) h := by
        have : atI (numS n).cps.toList 0 = some c := by rw [ec, ix_nn (Int.le_refl _) (by simp)]; rfl
        simp only [TL.bIx, this]
      have q := test_ok ((op_ok (b := TL.bEq) ((op_ok (b := TL.bIx) v0 (ka (.int 0))).trans ix) (ka (.str "0"))).trans (TL.eq_strs _ _ h))
      have e0 : ((⟨#[c]⟩ : Str) == ("0" : String)) = false := by
        rw [W.beq_decide]
        refine decide_eq_false fun e => hd ?_
        have z : (("0" : String) : Str) = ⟨#[48]⟩ := by decide +kernel
        rw [z] at e
        injection e with e
        injection e with e
        injection e with e
        rw [e]
        rfl
      rw [e0] at q
      exact q
    simpa using D
  have T1 : nT τ h = .ok false h := hOr A fun _ => hOr (hNot (test_ok B)) fun _ => D
  have I := (call_ok (b := fInt) (cons_ok v0 nil)).trans (fInt_num hn h)
  have E := test_ok ((op_ok (b := TL.bLt) (hLenS v0) (ka (.int 9))).trans (hLt _ _ h))
  have F := test_ok ((op_ok (b := TL.bLe) I v1).trans (hLe _ _ h))
  rw [decide_eq_true hm] at F
  rw [decide_eq_true (by omega)] at E
  show defM 3 2 s_number_in _ _ = _
  rw [n_eq]
  refine defM_rt rfl ?_
  rw [← hτ]
  exact (seq_nx ((if_f T1).trans rfl)).trans (ret_ok ((hIfT ((hAnd E fun _ => F).trans rfl)).trans I))
/-! ### ascending -/
def zA : ME := eCall fAny (aCons (eL (mLc (iZipM (aCons (eVar 2) (aCons (eSl (eVar 2) (oSome (eK (.int 1))) oNo) aNil))) [4, 5] (mgTup 2 (mgsCons (mgName 4) (mgsCons (mgName 5) mgsNil))) bYes (eOp TL.bGe (eVar 4) (eVar 5)))) aNil)
theorem zip_mem {ts : List T} {t : T} : t ∈ zipT ts (ts.drop 1) → ∃ (i : Nat) (a b : T), ts[i]? = some a ∧ ts[i + 1]? = some b ∧ t = .tup [a, b] := by
  intro ht
  unfold zipT at ht
  obtain ⟨i, hi, e⟩ := List.getElem_of_mem ht
  simp only [List.length_zipWith, List.length_drop] at hi
  refine ⟨i, ts[i], ts[i + 1], List.getElem?_eq_getElem (by omega), List.getElem?_eq_getElem (by omega), ?_⟩
  rw [← e, List.getElem_zipWith, List.getElem_drop]
  simp only [Nat.add_comm 1 i]
/-- nothing in a list is as great as the next -/
theorem zA_ok {a0 a1 a3 a4 a5 : Option T} {ts : List T} {h : VH} (hl : ts.length ≤ 1000) (hp : ∀ (i : Nat) (a b : T), ts[i]? = some a → ts[i + 1]? = some b → TL.bGe a b h = .ok (.bl false) h) : zA [a0, a1, some (.lst ts), a3, a4, a5] h = .ok (.bl false) h := by
  have nil : aNil [a0, a1, some (.lst ts), a3, a4, a5] h = .ok [] h := rfl
  have mi : iZipM (aCons (eVar 2) (aCons (eSl (eVar 2) (oSome (eK (.int 1))) oNo) aNil)) [a0, a1, some (.lst ts), a3, a4, a5] h = .ok (fun h => match TL.listOf h (.lst ts), TL.listOf h (.lst (ts.drop 1)) with | some ts, some us => some (zipT ts us) | _, _ => none) h := by
    have v2 : eVar 2 [a0, a1, some (.lst ts), a3, a4, a5] h = .ok (.lst ts) h := rfl
    have sl : eSl (eVar 2) (oSome (eK (.int 1))) oNo [a0, a1, some (.lst ts), a3, a4, a5] h = .ok (.lst (ts.drop 1)) h := by
      simp only [eSl, v2, oSome, oNo, eK, TL.bSl, TL.listOf, cut1]
    unfold iZipM
    rw [cons_ok v2 (cons_ok sl nil)]
    rfl
  have lz : (zipT ts (ts.drop 1)).length ≤ 1000 := by
    unfold zipT
    rw [List.length_zipWith]
    omega
  have z := mLc_map (mi := iZipM (aCons (eVar 2) (aCons (eSl (eVar 2) (oSome (eK (.int 1))) oNo) aNil))) (ws := [4, 5]) (g := mgTup 2 (mgsCons (mgName 4) (mgsCons (mgName 5) mgsNil))) (e := eOp TL.bGe (eVar 4) (eVar 5)) (τ := [a0, a1, some (.lst ts), a3, a4, a5]) (h := h) (ts := zipT ts (ts.drop 1)) mi rfl (by omega) (fun _ => .bl false) (fun t ht => by
    obtain ⟨i, a, b, ha, hb, rfl⟩ := zip_mem ht
    refine ⟨[a0, a1, some (.lst ts), a3, some a, some b], rfl, ?_⟩
    exact (op_ok (b := TL.bGe) (rfl : eVar 4 _ h = .ok a h) (rfl : eVar 5 _ h = .ok b h)).trans (hp i a b ha hb))
  have a := (call_ok (b := fAny) (cons_ok (eL_ok z) nil)).trans (hAny (zipT ts (ts.drop 1)) (fun _ => false) h)
  rw [show ((zipT ts (ts.drop 1)).any fun _ => false) = false from List.any_eq_false.mpr fun _ _ => Bool.false_ne_true] at a
  exact a
end BD

set_option Elab.async false
set_option linter.all false
set_option maxRecDepth 100000
set_option maxHeartbeats 4000000
namespace BD
open PySem L2 TL K13
theorem none_in {ts : List T} {h : VH} (hd : ∀ t ∈ ts, ∃ d, T.dat h 10 t = some d ∧ PyData.eqv d .none = false) : TL.bIn .non (.lst ts) h = .ok (.bl false) h := by
  have key : ∀ ts : List T, (∀ t ∈ ts, ∃ d, T.dat h 10 t = some d ∧ PyData.eqv d .none = false) → ∃ ds : List PyData, ts.mapM (T.dat h 10) = some ds ∧ (ds.any fun z => PyData.eqv z .none) = false := by
    intro ts
    induction ts with
    | nil => intro _; exact ⟨[], rfl, rfl⟩
    | cons t ts ih =>
      intro hd
      obtain ⟨d, e1, e2⟩ := hd t List.mem_cons_self
      obtain ⟨ds, e3, e4⟩ := ih fun u hu => hd u (List.mem_cons_of_mem _ hu)
      exact ⟨d :: ds, by rw [List.mapM_cons, e1, e3]; rfl, by rw [List.any_cons, e2, e4]; rfl⟩
  obtain ⟨ds, e1, e2⟩ := key ts hd
  have d2 : T.dat h 11 (.lst ts) = some (.list ds) := by
    show (ts.mapM (T.dat h 10)).map PyData.list = _
    rw [e1]
    rfl
  have e3 : TL.bIn .non (.lst ts) h = (match T.dat h 10 .non, T.dat h 11 (.lst ts) with
    | some d, some (.list ds) => Res.ok (.bl (false != ds.any fun z => PyData.eqv z d)) h
    | some d, some (.tuple ds) => .ok (.bl (false != ds.any fun z => PyData.eqv z d)) h
    | _, _ => .bad) := rfl
  rw [e3, d2, dat_non]
  simp only [e2]
  rfl
theorem line_dat (l : List Nat) (h : VH) (k : Nat) : T.dat h (k + 1) (lineT l) = some (.tuple (l.map fun c => .int (c : Nat))) := by
  have : (l.map fun c : Nat => T.int (c : Nat)).mapM (T.dat h k) = some (l.map fun c : Nat => PyData.int (c : Nat)) := by
    rw [List.mapM_map]
    exact mapM_some fun c _ => dat_int
  show ((l.map fun c : Nat => T.int (c : Nat)).mapM (T.dat h k)).map PyData.tuple = _
  rw [this]
  rfl
def lnS : MS := (sSet 2 (eL (mLc (iSeqC (eMt "str" mSplit (eVar 0) (aCons (eK (.str " ")) aNil))) [3] (mgName 3) bYes (eCall m_number_in (aCons (eVar 3) (aCons (eOp TL.bSub (eVar 1) (eK (.int 1))) aNil))))))
theorem ln_eq : s_line_in = sSeq lnS (sSeq (sIf (TL.bOr (bTest (eOp TL.bIn (eK .non) (eVar 2))) (bTest zA)) (sRet (eK .non)) sNil) (sRet (eCall fTuple (aCons (eVar 2) aNil)))) := rfl
theorem line_ok {size : Nat} {l : List Nat} (s1 : size ≤ 30) (L : Line size l) (h : VH) : m_line_in [.str (wordsS l), .int (size : Nat)] h = .ok (lineT l) h := by
  have ll := L.len
  have wl := words_len s1 L
  have S : lnS (startT 6 [T.str (wordsS l), .int (size : Nat)]) h = .nx [some (.str (wordsS l)), some (.int (size : Nat)), some (.lst (l.map fun c => .int (c : Nat))), none, none, none] h := by
    have sp := hSplit (h := h) (τ := startT 6 [T.str (wordsS l), .int (size : Nat)]) (f := eVar 0) (g := eK (.str " ")) (u := wordsS l) (v := " ") (by decide) (by omega) rfl rfl
    rw [split_words s1 L, List.map_map] at sp
    have z := mLc_map (mi := iSeqC (eMt "str" mSplit (eVar 0) (aCons (eK (.str " ")) aNil))) (ws := [3]) (g := mgName 3) (e := eCall m_number_in (aCons (eVar 3) (aCons (eOp TL.bSub (eVar 1) (eK (.int 1))) aNil))) (τ := startT 6 [T.str (wordsS l), .int (size : Nat)]) (h := h) (rd := fun h => seqS h (.lst (l.map (T.str ∘ numS)))) (ts := l.map (T.str ∘ numS))
      (by unfold iSeqC; rw [sp]; rfl) rfl (by rw [List.length_map]; omega) (fun t => match t with | .str z => (match intText? z with | some i => .int i | none => .non) | t => t) (fun t ht => by
        obtain ⟨n, hn, rfl⟩ := List.mem_map.mp ht
        have lt := L.lt n hn
        refine ⟨[some (.str (wordsS l)), some (.int (size : Nat)), none, some (.str (numS n)), none, none], rfl, ?_⟩
        have A := (op_ok (b := TL.bSub) (rfl : eVar 1 [some (.str (wordsS l)), some (.int (size : Nat)), none, some (.str (numS n)), none, none] h = .ok (.int (size : Nat)) h) (rfl : eK (.int 1) [some (.str (wordsS l)), some (.int (size : Nat)), none, some (.str (numS n)), none, none] h = .ok (.int 1) h)).trans (hSub _ _ h)
        have B := (call_ok (b := m_number_in) (cons_ok (rfl : eVar 3 [some (.str (wordsS l)), some (.int (size : Nat)), none, some (.str (numS n)), none, none] h = .ok (.str (numS n)) h) (cons_ok A (rfl : aNil _ h = .ok [] h)))).trans (number_ok (n := n) (m := (size : Int) - 1) (by omega) (by omega) h)
        show _ = Res.ok (match intText? (numS n) with | some i => T.int i | none => .non) h
        rw [num_int (by omega)]
        exact B)
    have e : (l.map (T.str ∘ numS)).map (fun t => match t with | .str z => (match intText? z with | some i => T.int i | none => .non) | t => t) = l.map fun c => .int (c : Nat) := by
      rw [List.map_map]
      refine List.map_congr_left fun n hn => ?_
      have lt := L.lt n hn
      show (match intText? (numS n) with | some i => T.int i | none => .non) = _
      rw [num_int (by omega)]
    rw [e] at z
    exact (set_ok (i := 2) (eL_ok z)).trans rfl
  obtain ⟨τ, hτ⟩ : ∃ τ, τ = [some (T.str (wordsS l)), some (.int (size : Nat)), some (.lst (l.map fun c => T.int (c : Nat))), none, none, none] := ⟨_, rfl⟩
  rw [← hτ] at S
  have v2 : eVar 2 τ h = .ok (.lst (l.map fun c => T.int (c : Nat))) h := by rw [hτ]; rfl
  have A := test_ok ((op_ok (b := TL.bIn) (rfl : eK .non τ h = .ok .non h) v2).trans (none_in fun t ht => by
    obtain ⟨c, _, rfl⟩ := List.mem_map.mp ht
    exact ⟨_, dat_int, rfl⟩))
  have B : zA τ h = .ok (.bl false) h := by
    rw [hτ]
    refine zA_ok (by rw [List.length_map]; omega) fun i a b ha hb => ?_
    rw [List.getElem?_map] at ha hb
    obtain ⟨x, hx, rfl⟩ := Option.map_eq_some_iff.mp ha
    obtain ⟨y, hy, rfl⟩ := Option.map_eq_some_iff.mp hb
    obtain ⟨i1, ex⟩ := List.getElem?_eq_some_iff.mp hx
    obtain ⟨i2, ey⟩ := List.getElem?_eq_some_iff.mp hy
    have lt := List.pairwise_iff_getElem.mp L.asc i (i + 1) i1 i2 (by omega)
    rw [ex, ey] at lt
    rw [hGe, decide_eq_false (by omega)]
  show defM 6 2 s_line_in _ _ = _
  rw [ln_eq]
  refine defM_rt rfl ((seq_nx S).trans ((seq_nx ((if_f (hOr A fun _ => test_ok B)).trans rfl)).trans (ret_ok ?_)))
  exact (call_ok (b := fTuple) (cons_ok v2 (rfl : aNil τ h = .ok [] h))).trans rfl
theorem ge_lines {a b : List Nat} (lt : W.dataLt (.tuple (a.map fun c => .int (c : Nat))) (.tuple (b.map fun c => .int (c : Nat))) = true) (h : VH) : TL.bGe (lineT a) (lineT b) h = .ok (.bl false) h := by
  have d1 := line_dat a h 9
  have d2 := line_dat b h 9
  have al : W.alike (.tuple (a.map fun c => PyData.int (c : Nat))) (.tuple (b.map fun c => PyData.int (c : Nat))) = true := by
    have := W.alike_ints (a.map fun c : Nat => (c : Int)) (b.map fun c : Nat => (c : Int))
    rw [List.map_map, List.map_map] at this
    unfold W.alike
    exact this
  show bOrdD (fun d e => !W.dataLt d e) (lineT a) (lineT b) h = _
  unfold bOrdD
  rw [d1, d2]
  simp only [al, lt]
  rfl
theorem cut_tail (z : Str) : cutS (" " ++ z) (some 1) none = z := by
  have e0 : tl (" " : String) = [32] := by decide +kernel
  have e1 : (((" " : String) : Str) ++ z).cps.toList = 32 :: z.cps.toList := by
    have := tl_append (" " : String) z
    rw [e0] at this
    exact this
  have e2 : (((" " : String) : Str) ++ z).length = z.length + 1 := by
    unfold Str.length
    rw [← Array.length_toList, e1, List.length_cons, Array.length_toList]
  have s1 : HT.sIx (z.length + 1) 0 (some 1) = 1 := by
    unfold HT.sIx
    simp
  have s2 : HT.sIx (z.length + 1) (z.length + 1) none = z.length + 1 := rfl
  unfold cutS
  rw [e1, e2, s1, s2]
  refine Str.ext' ?_
  rw [← Array.toList_inj]
  simp [Str.length]
  exact List.take_of_length_le (by simp)
end BD

set_option Elab.async false
set_option linter.all false
set_option maxRecDepth 100000
set_option maxHeartbeats 4000000
namespace BD
open PySem L2 TL K13
def lsS : MS := (sSet 2 (eL (mLc (iSeqC (eMt "str" mSplit (eSl (eVar 0) (oSome (eK (.int 1))) oNo) (aCons (eK (.str ", ")) aNil))) [3] (mgName 3) bYes (eCall m_line_in (aCons (eVar 3) (aCons (eVar 1) aNil))))))
theorem ls_eq : s_lines_in = sSeq (sIf (bTest (eOp TL.bEq (eVar 0) (eK (.str "")))) (sRet (eL (aLim aNil))) sNil) (sSeq (sIf (bTest (eOp TL.bNe (eOp TL.bIx (eVar 0) (eK (.int 0))) (eK (.str " ")))) (sRet (eK .non)) sNil) (sSeq lsS (sSeq (sIf (TL.bOr (bTest (eOp TL.bIn (eK .non) (eVar 2))) (bTest (eOp TL.bGt (eCall fLen (aCons (eVar 2) aNil)) (eK (.int 30))))) (sRet (eK .non)) sNil) (sRet (eIf (bTest zA) (eK .non) (eVar 2)))))) := rfl
theorem lines_ok {size : Nat} {rows : List (List Nat)} (R : Rows size rows) (h : VH) : m_lines_in [.str (tailS rows), .int (size : Nat)] h = .ok (rowsLT rows) h := by
  show defM 6 2 s_lines_in _ _ = _
  rw [ls_eq]
  have kk : ∀ t, eK t (startT 6 [T.str (tailS rows), .int (size : Nat)]) h = .ok t h := fun _ => rfl
  have v0 : eVar 0 (startT 6 [T.str (tailS rows), .int (size : Nat)]) h = .ok (.str (tailS rows)) h := rfl
  have A := test_ok ((op_ok (b := TL.bEq) v0 (kk (.str ""))).trans (TL.eq_strs _ _ h))
  by_cases q : rows = []
  · subst q
    have e : (tailS [] == ("" : String)) = true := by decide +kernel
    rw [e] at A
    exact defM_rt rfl (seq_rt ((if_t A).trans rfl))
  · have et : tailS rows = ((" " : String) : Str) ++ linesS rows := by unfold tailS; rw [if_neg q]
    have e0 : tl (" " : String) = [32] := by decide +kernel
    have ec : (tailS rows).cps.toList = 32 :: (linesS rows).cps.toList := by
      rw [et]
      have := tl_append (" " : String) (linesS rows)
      rw [e0] at this
      exact this
    have e : (tailS rows == ("" : String)) = false := by
      rw [W.beq_decide]
      refine decide_eq_false fun z => ?_
      have z2 := congrArg (fun s : Str => s.cps.toList) z
      have z3 : (("" : String) : Str).cps.toList = [] := by decide +kernel
      simp only [ec, z3] at z2
      cases z2
    rw [e] at A
    have ix : TL.bIx (.str (tailS rows)) (.int 0) h = .ok (.str " ") h := by
      have a : atI (tailS rows).cps.toList 0 = some 32 := by rw [ec, ix_nn (Int.le_refl _) (by simp)]; rfl
      have b : ((" " : String) : Str) = ⟨#[32]⟩ := by decide +kernel
      simp only [TL.bIx, a, b]
    have B := test_ok ((op_ok (b := TL.bNe) ((op_ok (b := TL.bIx) v0 (kk (.int 0))).trans ix) (kk (.str " "))).trans (TL.ne_strs _ _ h))
    rw [beq_self_eq_true] at B
    have ll := lines_len R
    have S : lsS (startT 6 [T.str (tailS rows), .int (size : Nat)]) h = .nx [some (.str (tailS rows)), some (.int (size : Nat)), some (rowsLT rows), none, none, none] h := by
      have sl : eSl (eVar 0) (oSome (eK (.int 1))) oNo (startT 6 [T.str (tailS rows), .int (size : Nat)]) h = .ok (.str (linesS rows)) h := by
        have := cut_tail (linesS rows)
        rw [← et] at this
        simp only [eSl, v0, oSome, oNo, eK, TL.bSl, this]
      have sp := hSplit (h := h) (g := eK (.str ", ")) (v := ", ") (by decide) (by omega) sl rfl
      rw [split_lines R q, List.map_map] at sp
      have z := mLc_map (mi := iSeqC (eMt "str" mSplit (eSl (eVar 0) (oSome (eK (.int 1))) oNo) (aCons (eK (.str ", ")) aNil))) (ws := [3]) (g := mgName 3) (e := eCall m_line_in (aCons (eVar 3) (aCons (eVar 1) aNil))) (τ := startT 6 [T.str (tailS rows), .int (size : Nat)]) (h := h) (rd := fun h => seqS h (.lst (rows.map (T.str ∘ wordsS)))) (ts := rows.map (T.str ∘ wordsS))
        (by unfold iSeqC; rw [sp]; rfl) rfl (by rw [List.length_map]; have := R.len; omega) (fun t => match m_line_in [t, .int (size : Nat)] h with | .ok u _ => u | _ => .non) (fun t ht => by
          obtain ⟨l, hl, rfl⟩ := List.mem_map.mp ht
          refine ⟨[some (.str (tailS rows)), some (.int (size : Nat)), none, some (.str (wordsS l)), none, none], rfl, ?_⟩
          have e := line_ok R.s1 (R.line l hl) h
          show _ = Res.ok (match m_line_in [.str (wordsS l), .int (size : Nat)] h with | .ok u _ => u | _ => .non) h
          rw [e]
          exact (call_ok (ts := [.str (wordsS l), .int (size : Nat)]) rfl).trans e)
      have e : (rows.map (T.str ∘ wordsS)).map (fun t => match m_line_in [t, .int (size : Nat)] h with | .ok u _ => u | _ => .non) = rows.map lineT := by
        rw [List.map_map]
        refine List.map_congr_left fun l hl => ?_
        have e := line_ok R.s1 (R.line l hl) h
        show (match m_line_in [.str (wordsS l), .int (size : Nat)] h with | .ok u _ => u | _ => T.non) = _
        rw [e]
      rw [e] at z
      exact (set_ok (i := 2) (eL_ok z)).trans rfl
    obtain ⟨τ, hτ⟩ : ∃ τ, τ = [some (T.str (tailS rows)), some (.int (size : Nat)), some (rowsLT rows), none, none, none] := ⟨_, rfl⟩
    rw [← hτ] at S
    have v2 : eVar 2 τ h = .ok (rowsLT rows) h := by rw [hτ]; rfl
    have C := test_ok ((op_ok (b := TL.bIn) (rfl : eK .non τ h = .ok .non h) v2).trans (none_in fun t ht => by
      obtain ⟨l, _, rfl⟩ := List.mem_map.mp ht
      exact ⟨_, line_dat l h 9, rfl⟩))
    have D := test_ok ((op_ok (b := TL.bGt) (hLenL v2) (rfl : eK (.int 30) τ h = .ok (.int 30) h)).trans (hGt _ _ h))
    rw [List.length_map, decide_eq_false (by have := R.len; omega)] at D
    have E : zA τ h = .ok (.bl false) h := by
      rw [hτ]
      refine zA_ok (by rw [List.length_map]; have := R.len; omega) fun i a b ha hb => ?_
      rw [List.getElem?_map] at ha hb
      obtain ⟨x, hx, rfl⟩ := Option.map_eq_some_iff.mp ha
      obtain ⟨y, hy, rfl⟩ := Option.map_eq_some_iff.mp hb
      obtain ⟨i1, ex⟩ := List.getElem?_eq_some_iff.mp hx
      obtain ⟨i2, ey⟩ := List.getElem?_eq_some_iff.mp hy
      have lt := List.pairwise_iff_getElem.mp R.asc i (i + 1) i1 i2 (by omega)
      rw [ex, ey] at lt
      exact ge_lines lt h
    exact defM_rt rfl ((seq_nx ((if_f A).trans rfl)).trans ((seq_nx ((if_f B).trans rfl)).trans ((seq_nx S).trans ((seq_nx ((if_f (hOr C fun _ => D)).trans rfl)).trans (ret_ok ((hIfF (test_ok E)).trans v2))))))
theorem bi_eq : s_board_in = sSeq (sIf (TL.bOr (TL.bNot (bTest (eIsi (.b "str") (eVar 0)))) (bTest (eOp TL.bNe (eMt "str" mCount (eVar 0) (aCons (eK (.str ":")) aNil)) (eK (.int 1))))) (sRet (eK .non)) sNil)
  (sSeq (sAsg (eMt "str" mSplit (eVar 0) (aCons (eK (.str ":")) aNil)) (mgLst 2 (mgsCons (mgName 1) (mgsCons (mgName 2) mgsNil))))
  (sSeq (sSet 3 (eCall m_number_in (aCons (eVar 1) (aCons (eK (.int 30)) aNil))))
  (sSeq (sSet 4 (eIf (TL.bAnd (bTest (eOp bIsn (eVar 3) (eK .non))) (bTest (eOp TL.bGt (eVar 3) (eK (.int 0))))) (eCall m_lines_in (aCons (eVar 2) (aCons (eVar 3) aNil))) (eK .non)))
  (sRet (eIf (bTest (eOp bIs (eVar 4) (eK .non))) (eK .non) (eTup (aCons (eVar 3) (aCons (eVar 4) aNil)))))))) := rfl
theorem board_len {size : Nat} {rows : List (List Nat)} (R : Rows size rows) : (boardS size rows).length ≤ 3000 := by
  have h1 := join_len ":" [numS size, tailS rows]
  have e : ((":" : String) : Str).length = 1 := by decide
  have h2 := num_len R.s1
  have h3 := lines_len R
  have h4 : (tailS rows).length ≤ 2801 := by
    unfold tailS
    split
    · decide +kernel
    · rw [TL.len_app]
      have : ((" " : String) : Str).length = 1 := by decide
      omega
  simp only [List.map_cons, List.map_nil, List.sum_cons, List.sum_nil, List.length_cons, List.length_nil, e] at h1
  have : (boardS size rows).length = (Txt.join ":" [numS size, tailS rows]).length := rfl
  omega
theorem board_in_ok {size : Nat} {rows : List (List Nat)} (R : Rows size rows) (h : VH) : m_board_in [.str (boardS size rows)] h = .ok (.tup [.int (size : Nat), rowsLT rows]) h := by
  have bl := board_len R
  obtain ⟨τ, hτ⟩ : ∃ τ, τ = startT 5 [T.str (boardS size rows)] := ⟨_, rfl⟩
  have v0 : eVar 0 τ h = .ok (.str (boardS size rows)) h := by rw [hτ]; rfl
  have A : eIsi (.b "str") (eVar 0) τ h = .ok (.bl true) h := by simp only [eIsi, v0, tyOf, isiB, beq_self_eq_true, Bool.true_or]
  have B : eMt "str" mCount (eVar 0) (aCons (eK (.str ":")) aNil) τ h = .ok (.int 1) h := by
    have tt : tyT h "str" (.str (boardS size rows)) = true := by unfold tyT; rfl
    have a : aCons (eK (.str ":")) aNil τ h = .ok [.str ":"] h := rfl
    unfold eMt
    simp only [v0, tt, if_true, a, mCount, count_board R]
  have C := test_ok ((op_ok (b := TL.bNe) B (rfl : eK (.int 1) τ h = .ok (.int 1) h)).trans (hNe _ _ h))
  have T1 := hOr (hNot (test_ok A)) fun _ => C
  have sp := hSplit (h := h) (g := eK (.str ":")) (v := ":") (by decide) (by omega) v0 rfl
  rw [split_board R] at sp
  have s2 : sAsg (eMt "str" mSplit (eVar 0) (aCons (eK (.str ":")) aNil)) (mgLst 2 (mgsCons (mgName 1) (mgsCons (mgName 2) mgsNil))) τ h = .nx [some (.str (boardS size rows)), some (.str (numS size)), some (.str (tailS rows)), none, none] h := by
    unfold sAsg
    rw [sp, hτ]
    rfl
  have n1 := number_ok (n := size) (m := 30) R.s1 (by have := R.s1; omega) h
  have s3 : sSet 3 (eCall m_number_in (aCons (eVar 1) (aCons (eK (.int 30)) aNil))) [some (.str (boardS size rows)), some (.str (numS size)), some (.str (tailS rows)), none, none] h = .nx [some (.str (boardS size rows)), some (.str (numS size)), some (.str (tailS rows)), some (.int (size : Nat)), none] h :=
    set_ok (i := 3) ((call_ok (ts := [.str (numS size), .int 30]) rfl).trans n1)
  obtain ⟨τ3, hτ3⟩ : ∃ τ3, τ3 = [some (T.str (boardS size rows)), some (.str (numS size)), some (.str (tailS rows)), some (.int (size : Nat)), none] := ⟨_, rfl⟩
  have w3 : eVar 3 τ3 h = .ok (.int (size : Nat)) h := by rw [hτ3]; rfl
  have w2 : eVar 2 τ3 h = .ok (.str (tailS rows)) h := by rw [hτ3]; rfl
  have D1 : bTest (eOp bIsn (eVar 3) (eK .non)) τ3 h = .ok true h := test_ok ((op_ok (b := bIsn) w3 (rfl : eK .non τ3 h = .ok .non h)).trans rfl)
  have D2 := test_ok ((op_ok (b := TL.bGt) w3 (rfl : eK (.int 0) τ3 h = .ok (.int 0) h)).trans (hGt _ _ h))
  rw [decide_eq_true (by have := R.s0; omega)] at D2
  have E := (call_ok (b := m_lines_in) (cons_ok w2 (cons_ok w3 (rfl : aNil τ3 h = .ok [] h)))).trans (lines_ok R h)
  have s4 : sSet 4 (eIf (TL.bAnd (bTest (eOp bIsn (eVar 3) (eK .non))) (bTest (eOp TL.bGt (eVar 3) (eK (.int 0))))) (eCall m_lines_in (aCons (eVar 2) (aCons (eVar 3) aNil))) (eK .non)) τ3 h = .nx (τ3.set 4 (some (rowsLT rows))) h := set_ok (i := 4) ((hIfT (hAnd D1 fun _ => D2)).trans E)
  rw [hτ3] at s4
  show defM 5 1 s_board_in _ _ = _
  rw [bi_eq]
  refine defM_rt rfl ?_
  rw [← hτ]
  exact (seq_nx ((if_f T1).trans rfl)).trans ((seq_nx s2).trans ((seq_nx s3).trans ((seq_nx s4).trans (ret_ok ((hIfF (h1 := h) rfl).trans rfl)))))
/-! ### the board -/
def boardT (size : Nat) (rows : List (List Nat)) : T := .obj 0 [.str (boardS size rows), .int (size : Nat), rowsLT rows]
theorem ints_low (l : List Nat) (n : Nat) : lowRs n (l.map fun c => T.int (c : Nat)) = true := by
  induction l with
  | nil => rfl
  | cons c l ih => simp [lowRs, T.lowR, ih]
theorem line_low (l : List Nat) (n : Nat) : (lineT l).lowR n = true := by unfold lineT; simp only [T.lowR]; exact ints_low l n
theorem rows_low (rows : List (List Nat)) (n : Nat) : (rowsLT rows).lowR n = true := by
  unfold rowsLT
  simp only [T.lowR]
  induction rows with
  | nil => rfl
  | cons r rows ih =>
    show (lowRs n (lineT r :: rows.map lineT)) = true
    simp only [lowRs, line_low, ih, Bool.and_self]
theorem make_ok {size : Nat} {rows : List (List Nat)} (R : Rows size rows) {h : VH} (hl : h.all (VO.lowR h.length) = true) : cutM (makeM 0 m_Board___init__) [.str (boardS size rows)] h = .ok (boardT size rows) h := by
  have r1 := board_in_ok R (h ++ [.ins 0 []])
  have g0 : (h ++ [VO.ins 0 []])[h.length]? = some (.ins 0 []) := by simp
  have s1 : (h ++ [VO.ins 0 []]).set h.length (.ins 0 [.str (boardS size rows)]) = h ++ [.ins 0 [.str (boardS size rows)]] := by simp
  have g1 : (h ++ [VO.ins 0 [.str (boardS size rows)]])[h.length]? = some (.ins 0 [.str (boardS size rows)]) := by simp
  have s2 : (h ++ [VO.ins 0 [.str (boardS size rows)]]).set h.length (.ins 0 [.str (boardS size rows), .int (size : Nat)]) = h ++ [.ins 0 [.str (boardS size rows), .int (size : Nat)]] := by simp
  have g2 : (h ++ [VO.ins 0 [.str (boardS size rows), .int (size : Nat)]])[h.length]? = some (.ins 0 [.str (boardS size rows), .int (size : Nat)]) := by simp
  have s3 : (h ++ [VO.ins 0 [.str (boardS size rows), .int (size : Nat)]]).set h.length (.ins 0 [.str (boardS size rows), .int (size : Nat), rowsLT rows]) = h ++ [.ins 0 [.str (boardS size rows), .int (size : Nat), rowsLT rows]] := by simp
  have hm : m_Board___init__ [.ref h.length, .str (boardS size rows)] (h ++ [.ins 0 []]) = .ok .non (h ++ [.ins 0 [.str (boardS size rows), .int (size : Nat), rowsLT rows]]) := by
    have ei : bIs (.tup [.int (size : Nat), rowsLT rows]) .non (h ++ [.ins 0 []]) = .ok (.bl false) (h ++ [.ins 0 []]) := rfl
    simp [m_Board___init__, s_Board___init__, defM, startT, sSeq, sSet, sIf, sNil, sBad, bTest, eOp, eK, eVar, eCall, aCons, aNil, r1, ei, sAsg, eTup, mgTup, mgsCons, mgFld, mgsNil, g0, s1, g1, s2, g2, s3]
  have ht : (h ++ [VO.ins 0 [.str (boardS size rows), .int (size : Nat), rowsLT rows]]).take h.length = h := by simp
  have fz : frz h.length (h ++ [.ins 0 [.str (boardS size rows), .int (size : Nat), rowsLT rows]]) 4 (.ref h.length) = some (boardT size rows) := by
    have l1 : T.lowR h.length (.ref h.length) = false := by simp [T.lowR]
    have g3 : (h ++ [VO.ins 0 [.str (boardS size rows), .int (size : Nat), rowsLT rows]])[h.length]? = some (.ins 0 [.str (boardS size rows), .int (size : Nat), rowsLT rows]) := by simp
    have k1 : frz h.length (h ++ [.ins 0 [.str (boardS size rows), .int (size : Nat), rowsLT rows]]) 3 (.str (boardS size rows)) = some (.str (boardS size rows)) := by unfold frz; rw [if_pos (by rfl)]
    have k2 : frz h.length (h ++ [.ins 0 [.str (boardS size rows), .int (size : Nat), rowsLT rows]]) 3 (.int (size : Nat)) = some (.int (size : Nat)) := by unfold frz; rw [if_pos (by rfl)]
    have k3 : frz h.length (h ++ [.ins 0 [.str (boardS size rows), .int (size : Nat), rowsLT rows]]) 3 (rowsLT rows) = some (rowsLT rows) := by unfold frz; rw [if_pos (rows_low rows _)]
    unfold frz
    rw [l1]
    simp only [Bool.false_eq_true, if_false, g3]
    simp [k1, k2, k3, boardT]
  unfold cutM makeM
  rw [hm]
  simp only [ht, hl, fz, if_true]
end BD

set_option Elab.async false
set_option linter.all false
set_option maxRecDepth 100000
set_option maxHeartbeats 4000000
namespace BD
open PySem L2 TL K13
theorem any_ints (c : Nat) (l : List Nat) : ((l.map fun c : Nat => PyData.int (c : Nat)).any fun z => PyData.eqv z (.int (c : Nat))) = decide (c ∈ l) := by
  induction l with
  | nil => simp
  | cons d l ih =>
    rw [List.map_cons, List.any_cons, ih]
    simp only [PyData.eqv]
    by_cases q : d = c
    · simp [q]
    · have : c ≠ d := fun z => q z.symm
      have n : ((d : Nat) : Int) ≠ (c : Nat) := by omega
      simp [this, n]
theorem inG_line (neg : Bool) (c : Nat) (l : List Nat) (h : VH) : bInG neg (.int (c : Nat)) (lineT l) h = .ok (.bl (neg != decide (c ∈ l))) h := by
  have d1 := line_dat l h 10
  have e3 : bInG neg (.int (c : Nat)) (lineT l) h = (match T.dat h 10 (.int (c : Nat)), T.dat h 11 (lineT l) with
    | some d, some (.list ds) => Res.ok (.bl (neg != ds.any fun z => PyData.eqv z d)) h
    | some d, some (.tuple ds) => .ok (.bl (neg != ds.any fun z => PyData.eqv z d)) h
    | _, _ => .bad) := rfl
  rw [e3, d1, dat_int]
  simp only [any_ints]
theorem in_line (c : Nat) (l : List Nat) (h : VH) : TL.bIn (.int (c : Nat)) (lineT l) h = .ok (.bl (decide (c ∈ l))) h := by
  have := inG_line false c l h
  rw [Bool.false_bne] at this
  exact this
theorem nin_line (c : Nat) (l : List Nat) (h : VH) : TL.bNin (.int (c : Nat)) (lineT l) h = .ok (.bl (!decide (c ∈ l))) h := by
  have := inG_line true c l h
  rw [Bool.true_bne] at this
  exact this
theorem between_ok (i a b : Int) (h : VH) : m_is_between [.int i, .int a, .int b] h = .ok (.bl (decide (a ≤ i) && decide (i ≤ b))) h := by
  have i0 : m_is_integer [.int i] h = .ok (.bl true) h := rfl
  refine defM_rt rfl (ret_ok ?_)
  have A : eCall m_is_integer (aCons (eVar 0) aNil) (startT 3 [.int i, .int a, .int b]) h = .ok (.bl true) h := (call_ok (ts := [.int i]) rfl).trans i0
  have B := hChain (τ := startT 3 [.int i, .int a, .int b]) (h := h) (f := eVar 1) (g := eVar 0) (k := eVar 2) (x := .int a) (y := .int i) (z := .int b) rfl rfl (hLe _ _ h) rfl (hLe _ _ h)
  exact (hEand A fun _ => B).trans (by rw [Bool.true_and])
/-- cells of one hand -/
structure Hand (size : Nat) (l others : List Nat) : Prop where
  asc : l.Pairwise (· < ·)
  lt : ∀ c ∈ l, c < size
  out : ∀ c ∈ l, c ∉ others
theorem Hand.len {size : Nat} {l o : List Nat} (L : Hand size l o) : l.length ≤ size := by
  have := asc_len (a := 0) (b := size) L.asc fun c hc => ⟨Nat.zero_le _, L.lt c hc⟩
  omega
def ccB : MS := (sIf (TL.bOr (TL.bNot (bTest (eCall m_is_between (aCons (eVar 4) (aCons (eK (.int 0)) (aCons (eOp TL.bSub (eVar 1) (eK (.int 1))) aNil)))))) (TL.bOr (TL.bAnd (bTest (eOp TL.bGt (eVar 3) (eK (.int 0)))) (bTest (eOp TL.bLe (eVar 4) (eOp TL.bIx (eVar 0) (eOp TL.bSub (eVar 3) (eK (.int 1))))))) (bTest (eOp TL.bIn (eVar 4) (eVar 2))))) sBad sNil)
theorem cc_eq : s_check_cells = sSeq (sIf (TL.bNot (bTest (eIsi (.b "tuple") (eVar 0)))) sBad sNil) (sFor (iEnumTM (aCons (eVar 0) aNil)) (mgTup 2 (mgsCons (mgName 3) (mgsCons (mgName 4) mgsNil))) ccB) := rfl
theorem cells_ok {size : Nat} {l others : List Nat} (L : Hand size l others) (h : VH) : m_check_cells [lineT l, .int (size : Nat), lineT others] h = .ok .non h := by
  have A : bTest (eIsi (.b "tuple") (eVar 0)) (startT 5 [lineT l, .int (size : Nat), lineT others]) h = .ok true h := by
    refine test_ok ?_
    have v0 : eVar 0 (startT 5 [lineT l, .int (size : Nat), lineT others]) h = .ok (lineT l) h := rfl
    simp only [eIsi, v0]
    rfl
  obtain ⟨τ', h', z, ⟨a, b, rfl⟩, rfl⟩ := sFor_inv (mi := iEnumTM (aCons (eVar 0) aNil)) (g := mgTup 2 (mgsCons (mgName 3) (mgsCons (mgName 4) mgsNil))) (body := ccB) (τ := startT 5 [lineT l, .int (size : Nat), lineT others]) (h := h) (h1 := h) (rd := fun _ => some (enumT (l.map fun c => T.int (c : Nat)))) (ts := enumT (l.map fun c => .int (c : Nat)))
    (fun _ τ h' => (∃ a b, τ = [some (lineT l), some (.int (size : Nat)), some (lineT others), a, b]) ∧ h' = h) rfl ⟨⟨none, none, rfl⟩, rfl⟩ (fun _ _ _ _ => rfl) (fun i hi τ h' J => by
      obtain ⟨⟨a, b, rfl⟩, rfl⟩ := J
      have hi2 : i < l.length := by simpa [enumT] using hi
      have ei : (enumT (l.map fun c => T.int (c : Nat)))[i] = .tup [.int (i : Nat), .int ((l[i] : Nat) : Int)] := by simp [enumT]
      rw [ei]
      refine ⟨[some (lineT l), some (.int (size : Nat)), some (lineT others), some (.int (i : Nat)), some (.int ((l[i] : Nat) : Int))], h', [some (lineT l), some (.int (size : Nat)), some (lineT others), some (.int (i : Nat)), some (.int ((l[i] : Nat) : Int))], h', rfl, .inl ?_, ⟨some (.int (i : Nat)), some (.int ((l[i] : Nat) : Int)), rfl⟩, rfl⟩
      obtain ⟨τ1, hτ⟩ : ∃ τ1, τ1 = [some (lineT l), some (T.int (size : Nat)), some (lineT others), some (T.int (i : Nat)), some (T.int ((l[i] : Nat) : Int))] := ⟨_, rfl⟩
      rw [← hτ]
      have v0 : eVar 0 τ1 h' = .ok (lineT l) h' := by rw [hτ]; rfl
      have v1 : eVar 1 τ1 h' = .ok (.int (size : Nat)) h' := by rw [hτ]; rfl
      have v2 : eVar 2 τ1 h' = .ok (lineT others) h' := by rw [hτ]; rfl
      have v3 : eVar 3 τ1 h' = .ok (.int (i : Nat)) h' := by rw [hτ]; rfl
      have v4 : eVar 4 τ1 h' = .ok (.int ((l[i] : Nat) : Int)) h' := by rw [hτ]; rfl
      have nil : aNil τ1 h' = .ok [] h' := rfl
      have lt := L.lt l[i] (List.getElem_mem hi2)
      have B := (call_ok (b := m_is_between) (cons_ok v4 (cons_ok (rfl : eK (.int 0) τ1 h' = .ok (.int 0) h') (cons_ok ((op_ok (b := TL.bSub) v1 (rfl : eK (.int 1) τ1 h' = .ok (.int 1) h')).trans (hSub _ _ h')) nil)))).trans (between_ok _ _ _ h')
      rw [decide_eq_true (show (0 : Int) ≤ (l[i] : Nat) by omega), decide_eq_true (show ((l[i] : Nat) : Int) ≤ (size : Int) - 1 by omega)] at B
      have C := test_ok ((op_ok (b := TL.bGt) v3 (rfl : eK (.int 0) τ1 h' = .ok (.int 0) h')).trans (hGt _ _ h'))
      have D : TL.bAnd (bTest (eOp TL.bGt (eVar 3) (eK (.int 0)))) (bTest (eOp TL.bLe (eVar 4) (eOp TL.bIx (eVar 0) (eOp TL.bSub (eVar 3) (eK (.int 1)))))) τ1 h' = .ok false h' := by
        have D := hAnd (d := (bTest (eOp TL.bLe (eVar 4) (eOp TL.bIx (eVar 0) (eOp TL.bSub (eVar 3) (eK (.int 1))))))) (q := false) C fun g => by
          have g := of_decide_eq_true g
          have ix : TL.bIx (lineT l) (.int ((i : Int) - 1)) h' = .ok (.int ((l[i - 1] : Nat) : Int)) h' := by
            have : atI (l.map fun c => T.int (c : Nat)) ((i : Int) - 1) = some (.int ((l[i - 1] : Nat) : Int)) := by
              rw [ix_nn (by omega) (by rw [List.length_map]; omega)]
              have e : ((i : Int) - 1).toNat = i - 1 := by omega
              rw [e, List.getElem?_map, List.getElem?_eq_getElem (by omega)]
              rfl
            unfold lineT
            simp only [TL.bIx, this]
          have E := (op_ok (b := TL.bIx) v0 ((op_ok (b := TL.bSub) v3 (rfl : eK (.int 1) τ1 h' = .ok (.int 1) h')).trans (hSub _ _ h'))).trans ix
          have F := test_ok ((op_ok (b := TL.bLe) v4 E).trans (hLe _ _ h'))
          have asc := List.pairwise_iff_getElem.mp L.asc (i - 1) i (by omega) hi2 (by omega)
          rw [decide_eq_false (by omega)] at F
          exact F
        simpa using D
      have G := test_ok ((op_ok (b := TL.bIn) v4 v2).trans (in_line _ _ h'))
      rw [decide_eq_false (L.out _ (List.getElem_mem hi2))] at G
      exact (if_f (hOr (hNot (test_ok B)) fun _ => hOr D fun _ => G)).trans rfl)
  show defM 5 3 s_check_cells _ _ = _
  rw [cc_eq]
  exact defM_nx rfl ((seq_nx ((if_f (hNot A)).trans rfl)).trans z)
/-! ### the stand -/
def standT (size : Nat) (rows : List (List Nat)) (mine its : List Nat) : T := .obj 1 [boardT size rows, lineT mine, lineT its]
theorem size_ok (size : Nat) (rows : List (List Nat)) (h : VH) : m_Board_size [boardT size rows] h = .ok (.int (size : Nat)) h := rfl
theorem stand_ok {size : Nat} {rows : List (List Nat)} {mine its : List Nat} (M : Hand size mine []) (I : Hand size its mine) {h : VH} (hl : h.all (VO.lowR h.length) = true) : cutM (makeM 1 m_Stand___init__) [boardT size rows, lineT mine, lineT its] h = .ok (standT size rows mine its) h := by
  have c0 : ∀ k : VH, m_check_board [boardT size rows] k = .ok .non k := fun k => rfl
  have c1 : ∀ k : VH, m_check_cells [lineT mine, .int (size : Nat), .tup []] k = .ok .non k := fun k => cells_ok M k
  have c2 : ∀ k : VH, m_check_cells [lineT its, .int (size : Nat), lineT mine] k = .ok .non k := fun k => cells_ok I k
  have pz : ∀ k : VH, ∀ τ : TS_, eVar 1 τ k = .ok (boardT size rows) k → eProp 0 m_Board_size (eVar 1) τ k = .ok (.int (size : Nat)) k := fun k τ e => by
    unfold eProp
    rw [e]
    rfl
  have g0 : (h ++ [VO.ins 1 []])[h.length]? = some (.ins 1 []) := by simp
  have s1 : (h ++ [VO.ins 1 []]).set h.length (.ins 1 [boardT size rows]) = h ++ [.ins 1 [boardT size rows]] := by simp
  have g1 : (h ++ [VO.ins 1 [boardT size rows]])[h.length]? = some (.ins 1 [boardT size rows]) := by simp
  have s2 : (h ++ [VO.ins 1 [boardT size rows]]).set h.length (.ins 1 [boardT size rows, lineT mine]) = h ++ [.ins 1 [boardT size rows, lineT mine]] := by simp
  have g2 : (h ++ [VO.ins 1 [boardT size rows, lineT mine]])[h.length]? = some (.ins 1 [boardT size rows, lineT mine]) := by simp
  have s3 : (h ++ [VO.ins 1 [boardT size rows, lineT mine]]).set h.length (.ins 1 [boardT size rows, lineT mine, lineT its]) = h ++ [.ins 1 [boardT size rows, lineT mine, lineT its]] := by simp
  have hm : m_Stand___init__ [.ref h.length, boardT size rows, lineT mine, lineT its] (h ++ [.ins 1 []]) = .ok .non (h ++ [.ins 1 [boardT size rows, lineT mine, lineT its]]) := by
    have pp := pz (h ++ [.ins 1 []]) [some (.ref h.length), some (boardT size rows), some (lineT mine), some (lineT its)] rfl
    have et : startT 4 [.ref h.length, boardT size rows, lineT mine, lineT its] = [some (.ref h.length), some (boardT size rows), some (lineT mine), some (lineT its)] := rfl
    have S1 : sExpr (eCall m_check_board (aCons (eVar 1) aNil)) [some (.ref h.length), some (boardT size rows), some (lineT mine), some (lineT its)] (h ++ [.ins 1 []]) = .nx [some (.ref h.length), some (boardT size rows), some (lineT mine), some (lineT its)] (h ++ [.ins 1 []]) := expr_ok ((call_ok (ts := [boardT size rows]) rfl).trans (c0 _))
    have S2 : sExpr (eCall m_check_cells (aCons (eVar 2) (aCons (eProp 0 m_Board_size (eVar 1)) (aCons (eTup aNil) aNil)))) [some (.ref h.length), some (boardT size rows), some (lineT mine), some (lineT its)] (h ++ [.ins 1 []]) = .nx [some (.ref h.length), some (boardT size rows), some (lineT mine), some (lineT its)] (h ++ [.ins 1 []]) := expr_ok ((call_ok (ts := [lineT mine, .int (size : Nat), .tup []]) (cons_ok rfl (cons_ok pp rfl))).trans (c1 _))
    have S3 : sExpr (eCall m_check_cells (aCons (eVar 3) (aCons (eProp 0 m_Board_size (eVar 1)) (aCons (eVar 2) aNil)))) [some (.ref h.length), some (boardT size rows), some (lineT mine), some (lineT its)] (h ++ [.ins 1 []]) = .nx [some (.ref h.length), some (boardT size rows), some (lineT mine), some (lineT its)] (h ++ [.ins 1 []]) := expr_ok ((call_ok (ts := [lineT its, .int (size : Nat), lineT mine]) (cons_ok rfl (cons_ok pp rfl))).trans (c2 _))
    refine defM_nx (τ := [some (.ref h.length), some (boardT size rows), some (lineT mine), some (lineT its)]) rfl ?_
    rw [et]
    refine (seq_nx S1).trans ((seq_nx S2).trans ((seq_nx S3).trans ?_))
    simp [sAsg, eTup, aCons, aNil, eVar, mgTup, mgsCons, mgFld, mgsNil, g0, s1, g1, s2, g2, s3]
  have ht : (h ++ [VO.ins 1 [boardT size rows, lineT mine, lineT its]]).take h.length = h := by simp
  have bl : ∀ n, (boardT size rows).lowR n = true := fun n => by
    unfold boardT
    simp only [T.lowR, lowRs, rows_low, Bool.and_self]
  have fz : frz h.length (h ++ [.ins 1 [boardT size rows, lineT mine, lineT its]]) 4 (.ref h.length) = some (standT size rows mine its) := by
    have l1 : T.lowR h.length (.ref h.length) = false := by simp [T.lowR]
    have g3 : (h ++ [VO.ins 1 [boardT size rows, lineT mine, lineT its]])[h.length]? = some (.ins 1 [boardT size rows, lineT mine, lineT its]) := by simp
    have k1 : frz h.length (h ++ [.ins 1 [boardT size rows, lineT mine, lineT its]]) 3 (boardT size rows) = some (boardT size rows) := by unfold frz; rw [if_pos (bl _)]
    have k2 : ∀ l, frz h.length (h ++ [.ins 1 [boardT size rows, lineT mine, lineT its]]) 3 (lineT l) = some (lineT l) := fun l => by unfold frz; rw [if_pos (line_low l _)]
    unfold frz
    rw [l1]
    simp only [Bool.false_eq_true, if_false, g3]
    simp [k1, k2, standT]
  unfold cutM makeM
  rw [hm]
  simp only [ht, hl, fz, if_true]
end BD

set_option Elab.async false
set_option linter.all false
set_option maxRecDepth 100000
set_option maxHeartbeats 4000000
namespace BD
open PySem L2 TL K13
section
variable {size : Nat} {rows : List (List Nat)} {mine its : List Nat}
/-- the free cells -/
def freeL (size : Nat) (mine its : List Nat) : List Nat := (List.range size).filter fun c => !decide (c ∈ mine) && !decide (c ∈ its)
def liveB (its l : List Nat) : Bool := !l.any fun c => decide (c ∈ its)
def restL (mine l : List Nat) : List Nat := l.filter fun c => !decide (c ∈ mine)
/-- the rests of the live lines -/
def restsL (rows : List (List Nat)) (mine its : List Nat) : List (List Nat) := (rows.filter (liveB its)).map (restL mine)
theorem fld0 {f : ME} {τ : TS_} {h : VH} (e : f τ h = .ok (standT size rows mine its) h) : eFld 1 0 f τ h = .ok (boardT size rows) h := by unfold eFld; rw [e]; rfl
theorem fld1 {f : ME} {τ : TS_} {h : VH} (e : f τ h = .ok (standT size rows mine its) h) : eFld 1 1 f τ h = .ok (lineT mine) h := by unfold eFld; rw [e]; rfl
theorem fld2 {f : ME} {τ : TS_} {h : VH} (e : f τ h = .ok (standT size rows mine its) h) : eFld 1 2 f τ h = .ok (lineT its) h := by unfold eFld; rw [e]; rfl
theorem bfld1 {f : ME} {τ : TS_} {h : VH} (e : f τ h = .ok (boardT size rows) h) : eFld 0 1 f τ h = .ok (.int (size : Nat)) h := by unfold eFld; rw [e]; rfl
theorem bfld2 {f : ME} {τ : TS_} {h : VH} (e : f τ h = .ok (boardT size rows) h) : eFld 0 2 f τ h = .ok (rowsLT rows) h := by unfold eFld; rw [e]; rfl
theorem free_ok (s1 : size ≤ 100000) (h : VH) : m_Stand_free [standT size rows mine its] h = .ok (lineT (freeL size mine its)) h := by
  have v0 : ∀ c, eVar 0 [some (standT size rows mine its), c] h = .ok (standT size rows mine its) h := fun _ => rfl
  have mi : iRange1 (aCons (eFld 0 1 (eFld 1 0 (eVar 0))) aNil) [some (standT size rows mine its), none] h = .ok (fun _ => some (rangeT 0 size)) h := by
    have A := cons_ok (bfld1 (fld0 (v0 none))) (rfl : aNil [some (standT size rows mine its), none] h = .ok [] h)
    unfold iRange1
    rw [A]
    simp only
    rw [if_pos ⟨by omega, by omega⟩, Int.toNat_natCast]
  have z := mLc_pure (mi := iRange1 (aCons (eFld 0 1 (eFld 1 0 (eVar 0))) aNil)) (ws := [1]) (g := mgName 1) (c := TL.bAnd (bTest (eOp TL.bNin (eVar 1) (eFld 1 1 (eVar 0)))) (bTest (eOp TL.bNin (eVar 1) (eFld 1 2 (eVar 0))))) (e := eVar 1) (τ := [some (standT size rows mine its), none]) (h := h) (ts := rangeT 0 size) mi rfl (by rw [range_len]; omega)
    (fun t => match t with | .int i => !decide (i.toNat ∈ mine) && !decide (i.toNat ∈ its) | _ => false) (fun t => t) (fun t ht => by
      obtain ⟨i, hi, rfl⟩ := List.getElem_of_mem ht
      obtain ⟨hi2, ei⟩ := range_at hi
      rw [ei, Int.zero_add]
      refine ⟨[some (standT size rows mine its), some (.int (i : Nat))], rfl, ?_, fun _ => rfl⟩
      have v1 : eVar 1 [some (standT size rows mine its), some (.int (i : Nat))] h = .ok (.int (i : Nat)) h := rfl
      have A := test_ok ((op_ok (b := TL.bNin) v1 (fld1 (v0 _))).trans (nin_line i mine h))
      have B := test_ok ((op_ok (b := TL.bNin) v1 (fld2 (v0 _))).trans (nin_line i its h))
      exact hAnd A fun _ => B)
  have e : ((rangeT 0 size).filter fun t => match t with | .int i => !decide (i.toNat ∈ mine) && !decide (i.toNat ∈ its) | _ => false).map (fun t => t) = (freeL size mine its).map fun c => T.int (c : Nat) := by
    rw [List.map_id']
    unfold rangeT freeL
    rw [List.filter_map]
    have : ∀ l : List Nat, List.map (fun i : Nat => T.int (0 + (i : Int))) l = l.map fun c => T.int (c : Nat) := fun l => List.map_congr_left fun c _ => by rw [Int.zero_add]
    rw [this]
    refine congrArg (List.map _) (List.filter_congr fun c _ => ?_)
    show (!decide ((0 + (c : Int)).toNat ∈ mine) && !decide ((0 + (c : Int)).toNat ∈ its)) = _
    rw [Int.zero_add, Int.toNat_natCast]
  rw [e] at z
  exact defM_rt rfl (ret_ok ((call_ok (b := fTuple) (cons_ok (eL_ok z) rfl)).trans rfl))
theorem live_ok (l its : List Nat) (hl : l.length ≤ 1000) (h : VH) : m_is_live [lineT l, lineT its] h = .ok (.bl (liveB its l)) h := by
  have z := mLc_map (mi := iSeqC (eVar 0)) (ws := [2]) (g := mgName 2) (e := eOp TL.bIn (eVar 2) (eVar 1)) (τ := startT 3 [lineT l, lineT its]) (h := h) (rd := fun h => seqS h (lineT l)) (ts := l.map fun c => T.int (c : Nat)) rfl rfl (by rw [List.length_map]; omega) (fun t => match t with | .int i => .bl (decide (i.toNat ∈ its)) | t => t) (fun t ht => by
    obtain ⟨c, _, rfl⟩ := List.mem_map.mp ht
    exact ⟨[some (lineT l), some (lineT its), some (.int (c : Nat))], rfl, (op_ok (b := TL.bIn) rfl rfl).trans (in_line c its h)⟩)
  rw [List.map_map] at z
  have a := (call_ok (b := fAny) (τ := startT 3 [lineT l, lineT its]) (cons_ok (eL_ok z) (rfl : aNil _ h = .ok [] h))).trans (hAny l (fun c => decide (c ∈ its)) h)
  exact defM_rt rfl (ret_ok (hEnot a))
theorem rest_ok (l mine : List Nat) (hl : l.length ≤ 1000) (h : VH) : m_rest_of [lineT l, lineT mine] h = .ok (lineT (restL mine l)) h := by
  have z := mLc_pure (mi := iSeqC (eVar 0)) (ws := [2]) (g := mgName 2) (c := bTest (eOp TL.bNin (eVar 2) (eVar 1))) (e := eVar 2) (τ := startT 3 [lineT l, lineT mine]) (h := h) (rd := fun h => seqS h (lineT l)) (ts := l.map fun c => T.int (c : Nat)) rfl rfl (by rw [List.length_map]; omega) (fun t => match t with | .int i => !decide (i.toNat ∈ mine) | _ => false) (fun t => t) (fun t ht => by
    obtain ⟨c, _, rfl⟩ := List.mem_map.mp ht
    exact ⟨[some (lineT l), some (lineT mine), some (.int (c : Nat))], rfl, test_ok ((op_ok (b := TL.bNin) rfl rfl).trans (nin_line c mine h)), fun _ => rfl⟩)
  rw [List.map_id', List.filter_map] at z
  exact defM_rt rfl (ret_ok ((call_ok (b := fTuple) (cons_ok (eL_ok z) rfl)).trans rfl))
def restsT (rs : List (List Nat)) : T := .tup (rs.map lineT)
theorem rests_ok (R : Rows size rows) (h : VH) : m_Stand_rests [standT size rows mine its] h = .ok (restsT (restsL rows mine its)) h := by
  have v0 : ∀ c, eVar 0 [some (standT size rows mine its), c] h = .ok (standT size rows mine its) h := fun _ => rfl
  have mi : iSeqC (eFld 0 2 (eFld 1 0 (eVar 0))) [some (standT size rows mine its), none] h = .ok (fun h => seqS h (rowsLT rows)) h := by
    unfold iSeqC
    rw [bfld2 (fld0 (v0 none))]
    rfl
  have sh : ∀ l ∈ rows, l.length ≤ 1000 := fun l hl => by
    have := (R.line l hl).len
    have := R.s1
    omega
  have z := mLc_pure (mi := iSeqC (eFld 0 2 (eFld 1 0 (eVar 0)))) (ws := [1]) (g := mgName 1) (c := bTest (eCall m_is_live (aCons (eVar 1) (aCons (eFld 1 2 (eVar 0)) aNil)))) (e := eCall m_rest_of (aCons (eVar 1) (aCons (eFld 1 1 (eVar 0)) aNil))) (τ := [some (standT size rows mine its), none]) (h := h) (ts := rows.map lineT) mi rfl (by rw [List.length_map]; have := R.len; omega)
    (fun t => match m_is_live [t, lineT its] h with | .ok (.bl b) _ => b | _ => false) (fun t => match m_rest_of [t, lineT mine] h with | .ok u _ => u | _ => .non) (fun t ht => by
      obtain ⟨l, hl, rfl⟩ := List.mem_map.mp ht
      refine ⟨[some (standT size rows mine its), some (lineT l)], rfl, ?_, fun _ => ?_⟩
      · have A := live_ok l its (sh l hl) h
        show _ = Res.ok (match m_is_live [lineT l, lineT its] h with | .ok (.bl b) _ => b | _ => false) h
        rw [A]
        exact test_ok ((call_ok (b := m_is_live) (cons_ok (rfl : eVar 1 _ h = .ok (lineT l) h) (cons_ok (fld2 (v0 _)) rfl))).trans A)
      · have A := rest_ok l mine (sh l hl) h
        show _ = Res.ok (match m_rest_of [lineT l, lineT mine] h with | .ok u _ => u | _ => .non) h
        rw [A]
        exact (call_ok (b := m_rest_of) (cons_ok (rfl : eVar 1 _ h = .ok (lineT l) h) (cons_ok (fld1 (v0 _)) rfl))).trans A)
  have e : ((rows.map lineT).filter fun t => match m_is_live [t, lineT its] h with | .ok (.bl b) _ => b | _ => false).map (fun t => match m_rest_of [t, lineT mine] h with | .ok u _ => u | _ => T.non) = (restsL rows mine its).map lineT := by
    unfold restsL
    rw [List.filter_map, List.map_map, List.map_map]
    have f1 : rows.filter ((fun t => match m_is_live [t, lineT its] h with | .ok (.bl b) _ => b | _ => false) ∘ lineT) = rows.filter (liveB its) := List.filter_congr fun l hl => by
      have A := live_ok l its (sh l hl) h
      show (match m_is_live [lineT l, lineT its] h with | .ok (.bl b) _ => b | _ => false) = _
      rw [A]
    rw [f1]
    refine List.map_congr_left fun l hl => ?_
    have A := rest_ok l mine (sh l (List.mem_filter.mp hl).1) h
    show (match m_rest_of [lineT l, lineT mine] h with | .ok u _ => u | _ => T.non) = _
    rw [A]
    rfl
  rw [e] at z
  exact defM_rt rfl (ret_ok ((call_ok (b := fTuple) (cons_ok (eL_ok z) rfl)).trans rfl))
theorem pFree (s1 : size ≤ 100000) {f : ME} {τ : TS_} {h : VH} (e : f τ h = .ok (standT size rows mine its) h) : eProp 1 m_Stand_free f τ h = .ok (lineT (freeL size mine its)) h := by
  unfold eProp
  rw [e]
  exact free_ok s1 h
theorem pRests (R : Rows size rows) {f : ME} {τ : TS_} {h : VH} (e : f τ h = .ok (standT size rows mine its) h) : eProp 1 m_Stand_rests f τ h = .ok (restsT (restsL rows mine its)) h := by
  unfold eProp
  rw [e]
  exact rests_ok R h
theorem chk_stand (h : VH) : m_check_stand [standT size rows mine its] h = .ok .non h := rfl
theorem chk_many {m : Nat} (h1 : 1 ≤ m) (h9 : m ≤ 9) (h : VH) : m_check_many [.int (m : Nat)] h = .ok .non h := by
  have A := (call_ok (b := m_is_between) (τ := startT 1 [.int (m : Nat)]) (ts := [.int (m : Nat), .int 1, .int 9]) (g := aCons (eVar 0) (aCons (eK (.int 1)) (aCons (eK (.int 9)) aNil))) rfl).trans (between_ok _ _ _ h)
  rw [decide_eq_true (by omega), decide_eq_true (by omega)] at A
  exact defM_nx rfl ((if_f (hNot (test_ok A))).trans rfl)
theorem free_mem {c : Nat} : c ∈ freeL size mine its ↔ c < size ∧ c ∉ mine ∧ c ∉ its := by
  unfold freeL
  rw [List.mem_filter, List.mem_range]
  simp [Bool.and_eq_true]
theorem chk_free {c : Nat} (hc : c ∈ freeL size mine its) (h : VH) : m_check_free [standT size rows mine its, .int (c : Nat)] h = .ok .non h := by
  obtain ⟨c1, c2, c3⟩ := free_mem.mp hc
  obtain ⟨τ, hτ⟩ : ∃ τ, τ = startT 2 [standT size rows mine its, .int (c : Nat)] := ⟨_, rfl⟩
  have v0 : eVar 0 τ h = .ok (standT size rows mine its) h := by rw [hτ]; rfl
  have v1 : eVar 1 τ h = .ok (.int (c : Nat)) h := by rw [hτ]; rfl
  have A := (call_ok (b := m_is_between) (cons_ok v1 (cons_ok (rfl : eK (.int 0) τ h = .ok (.int 0) h) (cons_ok ((op_ok (b := TL.bSub) (bfld1 (fld0 v0)) (rfl : eK (.int 1) τ h = .ok (.int 1) h)).trans (hSub _ _ h)) (rfl : aNil τ h = .ok [] h))))).trans (between_ok _ _ _ h)
  rw [decide_eq_true (by omega), decide_eq_true (by omega)] at A
  have B := test_ok ((op_ok (b := TL.bIn) v1 (fld1 v0)).trans (in_line c mine h))
  have C := test_ok ((op_ok (b := TL.bIn) v1 (fld2 v0)).trans (in_line c its h))
  rw [decide_eq_false c2] at B
  rw [decide_eq_false c3] at C
  refine defM_nx (τ := τ) rfl ?_
  rw [← hτ]
  exact (if_f (hOr (hNot (test_ok A)) fun _ => hOr B fun _ => C)).trans rfl
end
end BD

set_option Elab.async false
set_option linter.all false
set_option maxRecDepth 100000
set_option maxHeartbeats 4000000
namespace BD
open PySem L2 TL K13
theorem hMul {i j : Int} (hj : -1000000000000000000 < j ∧ j < 1000000000000000000) (h : VH) : TL.bMul (.int i) (.int j) h = .ok (.int (i * j)) h := by
  have c : cMul i j = true := by
    unfold cMul
    rw [Bool.or_eq_true, Bool.and_eq_true, Bool.and_eq_true]
    exact .inr ⟨decide_eq_true hj.1, decide_eq_true hj.2⟩
  unfold TL.bMul
  simp only [c, if_true]
def pwB : MS := (sSet 2 (eOp TL.bMul (eVar 2) (eVar 0)))
theorem pw_eq : s_power = sSeq (sSet 2 (eK (.int 1))) (sSeq (sFor (iRange1 (aCons (eVar 1) aNil)) (mgName 3) pwB) (sRet (eVar 2))) := rfl
theorem power_ok {b n : Nat} (hb : b ≤ 1000) (hn : n ≤ 100000) (h : VH) : m_power [.int (b : Nat), .int (n : Nat)] h = .ok (.int ((b ^ n : Nat) : Int)) h := by
  have mi : iRange1 (aCons (eVar 1) aNil) [some (T.int (b : Nat)), some (.int (n : Nat)), some (.int 1), none] h = .ok (fun _ => some (rangeT 0 n)) h := by
    unfold iRange1
    rw [cons_ok (rfl : eVar 1 [some (T.int (b : Nat)), some (.int (n : Nat)), some (.int 1), none] h = .ok (.int (n : Nat)) h) (rfl : aNil [some (T.int (b : Nat)), some (.int (n : Nat)), some (.int 1), none] h = .ok [] h)]
    simp only
    rw [if_pos ⟨by omega, by omega⟩, Int.toNat_natCast]
  obtain ⟨τ', h', z, ⟨c, rfl⟩, rfl⟩ := sFor_inv (mi := iRange1 (aCons (eVar 1) aNil)) (g := mgName 3) (body := pwB) (τ := [some (T.int (b : Nat)), some (.int (n : Nat)), some (.int 1), none]) (h := h) (h1 := h) (rd := fun _ => some (rangeT 0 n)) (ts := rangeT 0 n)
    (fun i τ h' => (∃ c, τ = [some (.int (b : Nat)), some (.int (n : Nat)), some (.int ((b ^ i : Nat) : Int)), c]) ∧ h' = h) mi ⟨⟨none, rfl⟩, rfl⟩ (fun _ _ _ _ => rfl) (fun i hi τ h' J => by
      obtain ⟨⟨c, rfl⟩, rfl⟩ := J
      refine ⟨[some (.int (b : Nat)), some (.int (n : Nat)), some (.int ((b ^ i : Nat) : Int)), some (rangeT 0 n)[i]], h', [some (.int (b : Nat)), some (.int (n : Nat)), some (.int ((b ^ (i + 1) : Nat) : Int)), some (rangeT 0 n)[i]], h', rfl, .inl ?_, ⟨_, rfl⟩, rfl⟩
      have A := (op_ok (b := TL.bMul) (rfl : eVar 2 [some (T.int (b : Nat)), some (.int (n : Nat)), some (.int ((b ^ i : Nat) : Int)), some (rangeT 0 n)[i]] h' = .ok (.int ((b ^ i : Nat) : Int)) h') (rfl : eVar 0 [some (T.int (b : Nat)), some (.int (n : Nat)), some (.int ((b ^ i : Nat) : Int)), some (rangeT 0 n)[i]] h' = .ok (.int (b : Nat)) h')).trans (hMul (by omega) h')
      have e : ((b ^ i : Nat) : Int) * (b : Nat) = ((b ^ (i + 1) : Nat) : Int) := by rw [Nat.pow_succ, Int.natCast_mul]
      rw [e] at A
      exact (set_ok (i := 2) A).trans rfl)
  rw [range_len] at z
  show defM 4 2 s_power _ _ = _
  rw [pw_eq]
  refine defM_rt rfl ((seq_nx (rfl : sSet 2 (eK (.int 1)) (startT 4 [T.int (b : Nat), .int (n : Nat)]) h' = .nx [some (T.int (b : Nat)), some (.int (n : Nat)), some (.int 1), none] h')).trans ((seq_nx z).trans (ret_ok ?_)))
  rfl
/-! ### the greatest common divisor -/
theorem gcd_loop {c : MB} {body : MS} {st : Nat → Nat → TS_} (hc : ∀ a b h, c (st a b) h = .ok (decide (0 < b)) h) (hb : ∀ a b h, 0 < b → body (st a b) h = .nx (st b (a % b)) h) :
    ∀ (k a b fuel : Nat) (h : VH), b < 2 ^ k → 2 * k + 1 ≤ fuel → whileL c body fuel (st a b) h = .nx (st (Nat.gcd a b) 0) h := by
  intro k
  induction k with
  | zero =>
    intro a b fuel h lt le
    obtain rfl : b = 0 := by simp at lt; omega
    obtain ⟨f, rfl⟩ : ∃ f, fuel = f + 1 := ⟨fuel - 1, by omega⟩
    unfold whileL
    rw [hc]
    simp
  | succ k ih =>
    intro a b fuel h lt le
    obtain ⟨f, rfl⟩ : ∃ f, fuel = f + 1 + 1 := ⟨fuel - 2, by omega⟩
    by_cases b0 : b = 0
    · subst b0
      unfold whileL
      rw [hc]
      simp
    · have bp : 0 < b := by omega
      have g1 : Nat.gcd a b = Nat.gcd b (a % b) := by rw [Nat.gcd_comm a b, Nat.gcd_rec b a, Nat.gcd_comm]
      have s1 : whileL c body (f + 1 + 1) (st a b) h = whileL c body (f + 1) (st b (a % b)) h := by
        conv => lhs; unfold whileL
        rw [hc, decide_eq_true bp]
        simp only [hb a b h bp]
      rw [s1, g1]
      by_cases r0 : a % b = 0
      · rw [r0]
        unfold whileL
        rw [hc]
        simp
      · have rp : 0 < a % b := by omega
        have g2 : Nat.gcd b (a % b) = Nat.gcd (a % b) (b % (a % b)) := by rw [Nat.gcd_comm b, Nat.gcd_rec (a % b) b, Nat.gcd_comm]
        have s2 : whileL c body (f + 1) (st b (a % b)) h = whileL c body f (st (a % b) (b % (a % b))) h := by
          conv => lhs; unfold whileL
          rw [hc, decide_eq_true rp]
          simp only [hb b (a % b) h rp]
        rw [s2, g2]
        have l1 := Nat.mod_lt b rp
        have l2 := Nat.mod_lt a bp
        have l3 : b % (a % b) + (a % b) ≤ b := by
          have e := Nat.mod_add_div b (a % b)
          have q : 1 ≤ b / (a % b) := (Nat.one_le_div_iff rp).mpr (by omega)
          have m : (a % b) * 1 ≤ (a % b) * (b / (a % b)) := Nat.mul_le_mul_left _ q
          omega
        refine ih _ _ f h ?_ (by omega)
        rw [Nat.pow_succ] at lt
        omega
theorem hMod {i j : Nat} (hj : 0 < j) (h : VH) : TL.bMod (.int (i : Nat)) (.int (j : Nat)) h = .ok (.int ((i % j : Nat) : Int)) h := by
  have c : decide ((0 : Int) < (j : Nat)) = true := decide_eq_true (by omega)
  simp only [TL.bMod, bI, c, if_true, Int.natCast_emod]
theorem log_small {j : Nat} (hb : j < 2 ^ 400) : j.log2 < 9000 := by
  rcases Nat.lt_or_ge j.log2 9000 with c | c
  · exact c
  · exfalso
    have p : 2 ^ j.log2 ≤ j := Nat.log2_self_le (by rintro rfl; simp at c)
    have q : 2 ^ 400 ≤ 2 ^ j.log2 := Nat.pow_le_pow_right (by omega) (by omega)
    omega
theorem hFdv {i j : Nat} (hj : 0 < j) (hb : j < 2 ^ 400) (h : VH) : TL.bFdvW (.int (i : Nat)) (.int (j : Nat)) h = .ok (.int ((i / j : Nat) : Int)) h := by
  have c : (decide ((0 : Int) < (j : Nat)) && decide (((j : Nat) : Int).natAbs.log2 < 9000)) = true := by
    rw [Int.natAbs_natCast, decide_eq_true (by omega), decide_eq_true (log_small hb)]
    rfl
  simp only [TL.bFdvW, bI, c, if_true, Int.natCast_ediv]
theorem divisor_ok {a b : Nat} (hb : b < 2 ^ 400) (h : VH) : m_divisor [.int (a : Nat), .int (b : Nat)] h = .ok (.int ((Nat.gcd a b : Nat) : Int)) h := by
  have z := gcd_loop (c := bTest (eOp TL.bGt (eVar 1) (eK (.int 0)))) (body := sPar 0 1 (aCons (eVar 1) (aCons (eOp TL.bMod (eVar 0) (eVar 1)) aNil))) (st := fun a b => [some (T.int (a : Nat)), some (.int (b : Nat))]) (fun a b h => by
      refine test_ok ((op_ok (b := TL.bGt) (rfl : eVar 1 _ h = .ok (.int (b : Nat)) h) rfl).trans ((hGt _ _ h).trans ?_))
      have : decide ((0 : Int) < (b : Nat)) = decide (0 < b) := decide_eq_decide.mpr (by omega)
      rw [this]) (fun a b h bp => by
      have A := (op_ok (b := TL.bMod) (rfl : eVar 0 [some (T.int (a : Nat)), some (.int (b : Nat))] h = .ok (.int (a : Nat)) h) (rfl : eVar 1 [some (T.int (a : Nat)), some (.int (b : Nat))] h = .ok (.int (b : Nat)) h)).trans (hMod bp h)
      unfold sPar
      rw [cons_ok (rfl : eVar 1 [some (T.int (a : Nat)), some (.int (b : Nat))] h = .ok (.int (b : Nat)) h) (cons_ok A rfl)]
      rfl) 400 a b 1000 h hb (by omega)
  exact defM_rt rfl ((seq_nx z).trans (ret_ok rfl))
theorem reduced_ok {x y : Nat} (hy : 0 < y) (hb : y < 2 ^ 400) (h : VH) : m_reduced [.tup [.int (x : Nat), .int (y : Nat)]] h = .ok (.tup [.int ((x / Nat.gcd x y : Nat) : Int), .int ((y / Nat.gcd x y : Nat) : Int)]) h := by
  have gp : 0 < Nat.gcd x y := Nat.gcd_pos_of_pos_right _ hy
  have gb : Nat.gcd x y < 2 ^ 400 := Nat.lt_of_le_of_lt (Nat.gcd_le_right _ hy) hb
  have i0 : TL.bIx (.tup [.int (x : Nat), .int (y : Nat)]) (.int 0) h = .ok (.int (x : Nat)) h := rfl
  have i1 : TL.bIx (.tup [.int (x : Nat), .int (y : Nat)]) (.int 1) h = .ok (.int (y : Nat)) h := rfl
  have s1 : sSet 1 (eCall m_divisor (aCons (eOp TL.bIx (eVar 0) (eK (.int 0))) (aCons (eOp TL.bIx (eVar 0) (eK (.int 1))) aNil))) (startT 2 [.tup [.int (x : Nat), .int (y : Nat)]]) h = .nx [some (.tup [.int (x : Nat), .int (y : Nat)]), some (.int ((Nat.gcd x y : Nat) : Int))] h :=
    set_ok (i := 1) ((call_ok (b := m_divisor) (ts := [.int (x : Nat), .int (y : Nat)]) rfl).trans (divisor_ok hb h))
  obtain ⟨τ, hτ⟩ : ∃ τ, τ = [some (T.tup [.int (x : Nat), .int (y : Nat)]), some (.int ((Nat.gcd x y : Nat) : Int))] := ⟨_, rfl⟩
  rw [← hτ] at s1
  have v0 : eVar 0 τ h = .ok (.tup [.int (x : Nat), .int (y : Nat)]) h := by rw [hτ]; rfl
  have v1 : eVar 1 τ h = .ok (.int ((Nat.gcd x y : Nat) : Int)) h := by rw [hτ]; rfl
  have A := (op_ok (b := TL.bFdvW) ((op_ok (b := TL.bIx) v0 (rfl : eK (.int 0) τ h = .ok (.int 0) h)).trans i0) v1).trans (hFdv gp gb h)
  have B := (op_ok (b := TL.bFdvW) ((op_ok (b := TL.bIx) v0 (rfl : eK (.int 1) τ h = .ok (.int 1) h)).trans i1) v1).trans (hFdv gp gb h)
  refine defM_rt rfl ((seq_nx s1).trans (ret_ok ?_))
  unfold eTup
  rw [cons_ok A (cons_ok B (rfl : aNil τ h = .ok [] h))]
  rfl
end BD

set_option Elab.async false
set_option linter.all false
set_option maxRecDepth 100000
set_option maxHeartbeats 4000000
namespace BD
open PySem L2 TL K13
theorem asc_sub : ∀ {m l : List Nat}, m.Pairwise (· < ·) → l.Pairwise (· < ·) → (∀ c ∈ l, c ∈ m) → l.length ≤ m.length
  | [], l, _, _, h => by
    cases l with
    | nil => exact Nat.le_refl _
    | cons c l => cases h c List.mem_cons_self
  | b :: m, [], _, _, _ => Nat.zero_le _
  | b :: m, a :: l, hm, hl, h => by
    rw [List.pairwise_cons] at hm hl
    have key : ∀ c ∈ l, c ∈ m := fun c hc => by
      rcases List.mem_cons.mp (h c (List.mem_cons_of_mem _ hc)) with rfl | q
      · exfalso
        have ac := hl.1 c hc
        rcases List.mem_cons.mp (h a List.mem_cons_self) with e | q
        · omega
        · have := hm.1 a q
          omega
      · exact q
    have := asc_sub hm.2 hl.2 key
    simp only [List.length_cons]
    omega
section
variable {size : Nat} {rows : List (List Nat)} {mine its : List Nat}
theorem free_asc : (freeL size mine its).Pairwise (· < ·) := List.Pairwise.filter _ List.pairwise_lt_range
theorem rest_mem {r : List Nat} (R : Rows size rows) (hr : r ∈ restsL rows mine its) : r.Pairwise (· < ·) ∧ ∀ c ∈ r, c ∈ freeL size mine its := by
  obtain ⟨l, hl, rfl⟩ := List.mem_map.mp hr
  obtain ⟨h1, h2⟩ := List.mem_filter.mp hl
  refine ⟨List.Pairwise.filter _ (R.line l h1).asc, fun c hc => ?_⟩
  obtain ⟨c1, c2⟩ := List.mem_filter.mp hc
  have c3 : c ∉ mine := by simpa using c2
  have c4 : c ∉ its := fun z => by
    unfold liveB at h2
    have : (l.any fun c => decide (c ∈ its)) = true := List.any_eq_true.mpr ⟨c, c1, decide_eq_true z⟩
    rw [this] at h2
    cases h2
  exact free_mem.mpr ⟨(R.line l h1).lt c c1, c3, c4⟩
theorem rest_le {r : List Nat} (R : Rows size rows) (hr : r ∈ restsL rows mine its) : r.length ≤ (freeL size mine its).length := asc_sub free_asc (rest_mem R hr).1 (rest_mem R hr).2
end
/-- the sum of the powers -/
def wsum (m F : Nat) (rs : List (List Nat)) : Nat := (rs.map fun r => (m + 1) ^ (F - r.length)).sum
theorem sum_cast : ∀ l : List Nat, (l.map fun n : Nat => (n : Int)).sum = ((l.sum : Nat) : Int)
  | [] => rfl
  | n :: l => by rw [List.map_cons, List.sum_cons, List.sum_cons, sum_cast l, Int.natCast_add]
theorem ints_of (l : List Nat) : intsOf (l.map fun n : Nat => T.int (n : Nat)) = some (l.map fun n : Nat => (n : Int)) := by
  induction l with
  | nil => rfl
  | cons n l ih => show (intsOf (l.map fun n : Nat => T.int (n : Nat))).map ((n : Int) :: ·) = _; rw [ih]; rfl
theorem weight_of_ok {t : T} {rs : List (List Nat)} {m F : Nat} {h : VH} (ht : seqS h t = some (rs.map lineT)) (hm : m ≤ 9) (hF : F ≤ 1000) (hl : rs.length ≤ 1000) (le : ∀ r ∈ rs, r.length ≤ F) : m_weight_of [t, .int (m : Nat), .int (F : Nat)] h = .ok (.tup [.int ((wsum m F rs : Nat) : Int), .int (((m + 1) ^ F : Nat) : Int)]) h := by
  have kk : ∀ c, ∀ u, eK u [some t, some (T.int (m : Nat)), some (.int (F : Nat)), c] h = .ok u h := fun _ _ => rfl
  have M : ∀ c, eOp TL.bAdd (eVar 1) (eK (.int 1)) [some t, some (T.int (m : Nat)), some (.int (F : Nat)), c] h = .ok (.int ((m + 1 : Nat) : Int)) h := fun c => (op_ok (b := TL.bAdd) (rfl : eVar 1 [some t, some (T.int (m : Nat)), some (.int (F : Nat)), c] h = .ok (.int (m : Nat)) h) (kk c _)).trans (hAdd _ _ h)
  have mi : iSeqC (eVar 0) [some t, some (T.int (m : Nat)), some (.int (F : Nat)), none] h = .ok (fun h => seqS h t) h := by
    have w : walkable h t = true := by unfold walkable; rw [ht]; rfl
    show (if walkable h t = true then Res.ok (fun h => seqS h t) h else .bad) = _
    rw [w]
    rfl
  have z := mLc_map (mi := iSeqC (eVar 0)) (ws := [3]) (g := mgName 3) (e := eCall m_power (aCons (eOp TL.bAdd (eVar 1) (eK (.int 1))) (aCons (eOp TL.bSub (eVar 2) (eCall fLen (aCons (eVar 3) aNil))) aNil))) (τ := [some t, some (T.int (m : Nat)), some (.int (F : Nat)), none]) (h := h) (ts := rs.map lineT) mi ht (by rw [List.length_map]; omega)
    (fun t => match t with | .tup us => .int (((m + 1) ^ (F - us.length) : Nat) : Int) | t => t) (fun u hu => by
      obtain ⟨r, hr, rfl⟩ := List.mem_map.mp hu
      have lr := le r hr
      refine ⟨[some t, some (T.int (m : Nat)), some (.int (F : Nat)), some (lineT r)], rfl, ?_⟩
      have L := hLenT (f := eVar 3) (τ := [some t, some (T.int (m : Nat)), some (.int (F : Nat)), some (lineT r)]) (h := h) (ts := r.map fun c => .int (c : Nat)) rfl
      have S := (op_ok (b := TL.bSub) (rfl : eVar 2 [some t, some (T.int (m : Nat)), some (.int (F : Nat)), some (lineT r)] h = .ok (.int (F : Nat)) h) L).trans (hSub _ _ h)
      have e : (F : Int) - ((r.map fun c => T.int (c : Nat)).length : Nat) = ((F - r.length : Nat) : Int) := by rw [List.length_map]; omega
      rw [e] at S
      have P := (call_ok (b := m_power) (cons_ok (M _) (cons_ok S (rfl : aNil _ h = .ok [] h)))).trans (power_ok (b := m + 1) (n := F - r.length) (by omega) (by omega) h)
      have e2 : (r.map fun c => T.int (c : Nat)).length = r.length := List.length_map _
      show _ = Res.ok (T.int (((m + 1) ^ (F - (r.map fun c => T.int (c : Nat)).length) : Nat) : Int)) h
      rw [e2]
      exact P)
  have e : (rs.map lineT).map (fun t => match t with | .tup us => T.int (((m + 1) ^ (F - us.length) : Nat) : Int) | t => t) = (rs.map fun r => (m + 1) ^ (F - r.length)).map fun n : Nat => T.int (n : Nat) := by
    rw [List.map_map, List.map_map]
    refine List.map_congr_left fun r _ => ?_
    show T.int (((m + 1) ^ (F - (r.map fun c => T.int (c : Nat)).length) : Nat) : Int) = _
    rw [List.length_map]
    rfl
  rw [e] at z
  have S : eCall fSum (aCons (eL (mLc (iSeqC (eVar 0)) [3] (mgName 3) bYes (eCall m_power (aCons (eOp TL.bAdd (eVar 1) (eK (.int 1))) (aCons (eOp TL.bSub (eVar 2) (eCall fLen (aCons (eVar 3) aNil))) aNil))))) aNil) [some t, some (T.int (m : Nat)), some (.int (F : Nat)), none] h = .ok (.int ((wsum m F rs : Nat) : Int)) h := by
    refine (call_ok (b := fSum) (cons_ok (eL_ok z) (rfl : aNil _ h = .ok [] h))).trans ?_
    simp only [fSum, fInts, TL.listOf, ints_of, sum_cast]
    rfl
  have P := (call_ok (b := m_power) (cons_ok (M none) (cons_ok (rfl : eVar 2 [some t, some (T.int (m : Nat)), some (.int (F : Nat)), none] h = .ok (.int (F : Nat)) h) (rfl : aNil _ h = .ok [] h)))).trans (power_ok (b := m + 1) (n := F) (by omega) (by omega) h)
  refine defM_rt rfl (ret_ok ?_)
  show eTup _ [some t, some (T.int (m : Nat)), some (.int (F : Nat)), none] h = _
  unfold eTup
  rw [cons_ok S (cons_ok P (rfl : aNil _ h = .ok [] h))]
  rfl
end BD

set_option Elab.async false
set_option linter.all false
set_option maxRecDepth 100000
set_option maxHeartbeats 4000000
namespace BD
open PySem L2 TL K13
theorem pow_fit {m F : Nat} (hm : m ≤ 9) (hF : F ≤ 30) : 0 < (m + 1) ^ F ∧ (m + 1) ^ F < 2 ^ 400 := by
  refine ⟨Nat.pow_pos (by omega), ?_⟩
  have h1 : (m + 1) ^ F ≤ 16 ^ F := Nat.pow_le_pow_left (by omega) F
  have h2 : 16 ^ F ≤ 16 ^ 30 := Nat.pow_le_pow_right (by omega) hF
  have h3 : (16 : Nat) ^ 30 = 2 ^ (4 * 30) := by rw [Nat.pow_mul]
  have h4 : (2 : Nat) ^ (4 * 30) < 2 ^ 400 := Nat.pow_lt_pow_right (by omega) (by omega)
  omega
/-- a sum of powers over a power, in least terms -/
def wT (m F : Nat) (rs : List (List Nat)) : T := .tup [.int ((wsum m F rs / Nat.gcd (wsum m F rs) ((m + 1) ^ F) : Nat) : Int), .int (((m + 1) ^ F / Nat.gcd (wsum m F rs) ((m + 1) ^ F) : Nat) : Int)]
section
variable {size : Nat} {rows : List (List Nat)} {mine its : List Nat}
theorem free_len (R : Rows size rows) : (freeL size mine its).length ≤ 30 := by
  have h1 : (freeL size mine its).length ≤ (List.range size).length := List.length_filter_le _ _
  rw [List.length_range] at h1
  have := R.s1
  omega
theorem rests_len (R : Rows size rows) : (restsL rows mine its).length ≤ 30 := by
  unfold restsL
  rw [List.length_map]
  have h1 : (rows.filter (liveB its)).length ≤ rows.length := List.length_filter_le _ _
  have := R.len
  omega
theorem pLen (R : Rows size rows) {f : ME} {τ : TS_} {h : VH} (e : f τ h = .ok (standT size rows mine its) h) : eCall fLen (aCons (eProp 1 m_Stand_free f) aNil) τ h = .ok (.int ((freeL size mine its).length : Nat)) h := by
  have := hLenT (ts := (freeL size mine its).map fun c => T.int (c : Nat)) (pFree (by have := R.s1; omega) e)
  rw [List.length_map] at this
  exact this
theorem weight_ok (R : Rows size rows) {m : Nat} (m1 : 1 ≤ m) (m9 : m ≤ 9) (h : VH) : m_weight [standT size rows mine its, .int (m : Nat)] h = .ok (wT m (freeL size mine its).length (restsL rows mine its)) h := by
  have fl := free_len (mine := mine) (its := its) R
  obtain ⟨p1, p2⟩ := pow_fit (m := m) m9 fl
  obtain ⟨τ, hτ⟩ : ∃ τ, τ = startT 2 [standT size rows mine its, .int (m : Nat)] := ⟨_, rfl⟩
  have v0 : eVar 0 τ h = .ok (standT size rows mine its) h := by rw [hτ]; rfl
  have v1 : eVar 1 τ h = .ok (.int (m : Nat)) h := by rw [hτ]; rfl
  have nil : aNil τ h = .ok [] h := rfl
  have A := (call_ok (b := m_weight_of) (cons_ok (pRests R v0) (cons_ok v1 (cons_ok (pLen R v0) nil)))).trans (weight_of_ok (t := restsT (restsL rows mine its)) (rs := restsL rows mine its) rfl m9 (by omega) (by have := rests_len (mine := mine) (its := its) R; omega) (fun r hr => rest_le R hr))
  have B := (call_ok (b := m_reduced) (cons_ok A nil)).trans (reduced_ok p1 p2 h)
  refine defM_rt rfl ?_
  rw [← hτ]
  exact (seq_nx (expr_ok ((call_ok (b := m_check_stand) (cons_ok v0 nil)).trans (chk_stand h)))).trans ((seq_nx (expr_ok ((call_ok (b := m_check_many) (cons_ok v1 nil)).trans (chk_many m1 m9 h)))).trans (ret_ok B))
/-- the rests with a cell -/
def withL (rs : List (List Nat)) (c : Nat) : List (List Nat) := rs.filter fun r => decide (c ∈ r)
theorem with_ok (R : Rows size rows) {c : Nat} {τ : TS_} {h : VH} {i j : Nat} {f : ME} (hf : f τ h = .ok (standT size rows mine its) h) (hi : ∀ t, eVar i ((wipeT τ [j]).set j (some t)) h = .ok (.int (c : Nat)) h) (hj : ∀ t, eVar j ((wipeT τ [j]).set j (some t)) h = .ok t h) (hg : ∀ t, mgName j t (wipeT τ [j]) h = .ok ((wipeT τ [j]).set j (some t)) h) :
    eL (mLc (iSeqC (eProp 1 m_Stand_rests f)) [j] (mgName j) (bTest (eOp TL.bIn (eVar i) (eVar j))) (eVar j)) τ h = .ok (.lst ((withL (restsL rows mine its) c).map lineT)) h := by
  have mi : iSeqC (eProp 1 m_Stand_rests f) τ h = .ok (fun h => seqS h (restsT (restsL rows mine its))) h := by
    unfold iSeqC
    rw [pRests R hf]
    rfl
  have z := mLc_pure (mi := iSeqC (eProp 1 m_Stand_rests f)) (ws := [j]) (g := mgName j) (c := bTest (eOp TL.bIn (eVar i) (eVar j))) (e := eVar j) (τ := τ) (h := h) (ts := (restsL rows mine its).map lineT) mi rfl (by rw [List.length_map]; have := rests_len (mine := mine) (its := its) R; omega)
    (fun t => match TL.bIn (.int (c : Nat)) t h with | .ok (.bl b) _ => b | _ => false) (fun t => t) (fun t ht => by
      obtain ⟨r, _, rfl⟩ := List.mem_map.mp ht
      refine ⟨_, hg _, ?_, fun _ => hj _⟩
      have e := in_line c r h
      show _ = Res.ok (match TL.bIn (.int (c : Nat)) (lineT r) h with | .ok (.bl b) _ => b | _ => false) h
      rw [e]
      exact test_ok ((op_ok (b := TL.bIn) (hi _) (hj _)).trans e))
  have e : (((restsL rows mine its).map lineT).filter fun t => match TL.bIn (.int (c : Nat)) t h with | .ok (.bl b) _ => b | _ => false).map (fun t => t) = (withL (restsL rows mine its) c).map lineT := by
    rw [List.map_id', List.filter_map]
    unfold withL
    refine congrArg (List.map _) (List.filter_congr fun r _ => ?_)
    have e := in_line c r h
    show (match TL.bIn (.int (c : Nat)) (lineT r) h with | .ok (.bl b) _ => b | _ => false) = _
    rw [e]
  rw [e] at z
  exact eL_ok z
theorem danger_ok (R : Rows size rows) {m c : Nat} (m1 : 1 ≤ m) (m9 : m ≤ 9) (hc : c ∈ freeL size mine its) (h : VH) : m_danger [standT size rows mine its, .int (m : Nat), .int (c : Nat)] h = .ok (wT m (freeL size mine its).length (withL (restsL rows mine its) c)) h := by
  have fl := free_len (mine := mine) (its := its) R
  obtain ⟨p1, p2⟩ := pow_fit (m := m) m9 fl
  obtain ⟨τ, hτ⟩ : ∃ τ, τ = startT 4 [standT size rows mine its, .int (m : Nat), .int (c : Nat)] := ⟨_, rfl⟩
  have v0 : eVar 0 τ h = .ok (standT size rows mine its) h := by rw [hτ]; rfl
  have v1 : eVar 1 τ h = .ok (.int (m : Nat)) h := by rw [hτ]; rfl
  have v2 : eVar 2 τ h = .ok (.int (c : Nat)) h := by rw [hτ]; rfl
  have nil : aNil τ h = .ok [] h := rfl
  have W := with_ok (i := 2) (j := 3) (c := c) (τ := τ) (h := h) (f := eVar 0) R v0 (fun t => by rw [hτ]; rfl) (fun t => by rw [hτ]; rfl) (fun t => by rw [hτ]; rfl)
  have wl : (withL (restsL rows mine its) c).length ≤ 1000 := by
    have h1 : (withL (restsL rows mine its) c).length ≤ (restsL rows mine its).length := List.length_filter_le _ _
    have := rests_len (mine := mine) (its := its) R
    omega
  have A := (call_ok (b := m_weight_of) (cons_ok W (cons_ok v1 (cons_ok (pLen R v0) nil)))).trans (weight_of_ok (t := .lst ((withL (restsL rows mine its) c).map lineT)) (rs := withL (restsL rows mine its) c) rfl m9 (by omega) wl (fun r hr => rest_le R (List.mem_filter.mp hr).1))
  have B := (call_ok (b := m_reduced) (cons_ok A nil)).trans (reduced_ok p1 p2 h)
  refine defM_rt rfl ?_
  rw [← hτ]
  exact (seq_nx (expr_ok ((call_ok (b := m_check_stand) (cons_ok v0 nil)).trans (chk_stand h)))).trans ((seq_nx (expr_ok ((call_ok (b := m_check_many) (cons_ok v1 nil)).trans (chk_many m1 m9 h)))).trans ((seq_nx (expr_ok ((call_ok (b := m_check_free) (cons_ok v0 (cons_ok v2 nil))).trans (chk_free hc h)))).trans (ret_ok B)))
end
end BD

set_option Elab.async false
set_option linter.all false
set_option maxRecDepth 100000
set_option maxHeartbeats 4000000
namespace BD
/-! ### fractions in least terms -/
structure Frac (X Y u l : Nat) : Prop where
  eq : u * Y = X * l
  cop : Nat.gcd u l = 1
  pos : 0 < l
theorem Frac.uniq {X Y u l : Nat} (f : Frac X Y u l) (hY : 0 < Y) : u = X / Nat.gcd X Y ∧ l = Y / Nat.gcd X Y := by
  have gp : 0 < Nat.gcd X Y := Nat.gcd_pos_of_pos_right _ hY
  obtain ⟨x, hx⟩ := Nat.gcd_dvd_left X Y
  obtain ⟨y, hy⟩ := Nat.gcd_dvd_right X Y
  have cx : X / Nat.gcd X Y = x := by
    have : X / Nat.gcd X Y = Nat.gcd X Y * x / Nat.gcd X Y := congrArg (· / Nat.gcd X Y) hx
    rw [this, Nat.mul_div_cancel_left _ gp]
  have cy : Y / Nat.gcd X Y = y := by
    have : Y / Nat.gcd X Y = Nat.gcd X Y * y / Nat.gcd X Y := congrArg (· / Nat.gcd X Y) hy
    rw [this, Nat.mul_div_cancel_left _ gp]
  have co : Nat.gcd x y = 1 := by
    have := Nat.coprime_div_gcd_div_gcd gp
    rw [cx, cy] at this
    exact this
  have e : u * y = x * l := by
    have h := f.eq
    generalize Nat.gcd X Y = g at hx hy gp
    rw [hx, hy] at h
    have h2 : g * (u * y) = g * (x * l) := by
      rw [Nat.mul_left_comm, h, Nat.mul_assoc]
    exact Nat.eq_of_mul_eq_mul_left gp h2
  have d1 : l ∣ y := Nat.Coprime.dvd_of_dvd_mul_left (m := u) (show Nat.Coprime l u from (Nat.gcd_comm l u).trans f.cop) ⟨x, by rw [e, Nat.mul_comm]⟩
  have d2 : y ∣ l := Nat.Coprime.dvd_of_dvd_mul_left (m := x) (show Nat.Coprime y x from (Nat.gcd_comm y x).trans co) ⟨u, by rw [← e, Nat.mul_comm]⟩
  have ly := Nat.dvd_antisymm d1 d2
  rw [cx, cy]
  refine ⟨?_, ly⟩
  rw [← ly] at e
  exact Nat.eq_of_mul_eq_mul_right f.pos e
theorem Frac.begin {Y : Nat} : Frac 0 Y 0 1 := ⟨by simp, rfl, by omega⟩
theorem Frac.step {X Y u l p q : Nat} (f : Frac X Y u l) (hp : 0 < p) (hq : q * p = Y) : Frac (X + q) Y ((u * p + l) / Nat.gcd (u * p + l) (l * p)) (l * p / Nat.gcd (u * p + l) (l * p)) := by
  have Lp : 0 < l * p := Nat.mul_pos f.pos hp
  have gp : 0 < Nat.gcd (u * p + l) (l * p) := Nat.gcd_pos_of_pos_right _ Lp
  have whole : (u * p + l) * Y = (X + q) * (l * p) := by
    have h := f.eq
    have a : u * p * Y = X * (l * p) := by rw [Nat.mul_right_comm, h, Nat.mul_assoc]
    have b : l * Y = q * (l * p) := by rw [← hq, Nat.mul_left_comm]
    rw [Nat.add_mul, Nat.add_mul, a, b]
  refine ⟨?_, Nat.coprime_div_gcd_div_gcd gp, Nat.div_pos (Nat.gcd_le_right _ Lp) gp⟩
  obtain ⟨U, hU⟩ := Nat.gcd_dvd_left (u * p + l) (l * p)
  obtain ⟨L, hL⟩ := Nat.gcd_dvd_right (u * p + l) (l * p)
  have cU : (u * p + l) / Nat.gcd (u * p + l) (l * p) = U := by
    have : (u * p + l) / Nat.gcd (u * p + l) (l * p) = Nat.gcd (u * p + l) (l * p) * U / Nat.gcd (u * p + l) (l * p) := congrArg (· / Nat.gcd (u * p + l) (l * p)) hU
    rw [this, Nat.mul_div_cancel_left _ gp]
  have cL : l * p / Nat.gcd (u * p + l) (l * p) = L := by
    have : l * p / Nat.gcd (u * p + l) (l * p) = Nat.gcd (u * p + l) (l * p) * L / Nat.gcd (u * p + l) (l * p) := congrArg (· / Nat.gcd (u * p + l) (l * p)) hL
    rw [this, Nat.mul_div_cancel_left _ gp]
  rw [cU, cL]
  generalize Nat.gcd (u * p + l) (l * p) = g at hU hL gp
  rw [hU, hL] at whole
  have h2 : g * (U * Y) = g * ((X + q) * L) := by
    rw [← Nat.mul_assoc, whole, Nat.mul_left_comm]
  exact Nat.eq_of_mul_eq_mul_left gp h2
end BD

set_option Elab.async false
set_option linter.all false
set_option maxRecDepth 100000
set_option maxHeartbeats 4000000
namespace BD
open PySem L2 TL K13
theorem lawDiv_ok {a b : Nat} (hb : b < 2 ^ 400) (h : VH) : m_law_divisor [.int (a : Nat), .int (b : Nat)] h = .ok (.int ((Nat.gcd a b : Nat) : Int)) h := by
  have z := gcd_loop (c := bTest (eOp TL.bGt (eVar 1) (eK (.int 0)))) (body := sPar 0 1 (aCons (eVar 1) (aCons (eOp TL.bMod (eCall fInt (aCons (eVar 0) aNil)) (eVar 1)) aNil))) (st := fun a b => [some (T.int (a : Nat)), some (.int (b : Nat))]) (fun a b h => by
      refine test_ok ((op_ok (b := TL.bGt) (rfl : eVar 1 _ h = .ok (.int (b : Nat)) h) rfl).trans ((hGt _ _ h).trans ?_))
      have : decide ((0 : Int) < (b : Nat)) = decide (0 < b) := decide_eq_decide.mpr (by omega)
      rw [this]) (fun a b h bp => by
      have I := (call_ok (b := fInt) (cons_ok (rfl : eVar 0 [some (T.int (a : Nat)), some (.int (b : Nat))] h = .ok (.int (a : Nat)) h) (rfl : aNil _ h = .ok [] h))).trans (rfl : fInt [.int (a : Nat)] h = .ok (.int (a : Nat)) h)
      have A := (op_ok (b := TL.bMod) I (rfl : eVar 1 [some (T.int (a : Nat)), some (.int (b : Nat))] h = .ok (.int (b : Nat)) h)).trans (hMod bp h)
      unfold sPar
      rw [cons_ok (rfl : eVar 1 [some (T.int (a : Nat)), some (.int (b : Nat))] h = .ok (.int (b : Nat)) h) (cons_ok A rfl)]
      rfl) 400 a b 1000 h hb (by omega)
  exact defM_rt rfl ((seq_nx z).trans (ret_ok rfl))
def lwI : MS := (sSet 5 (eOp TL.bMul (eVar 5) (eOp TL.bAdd (eVar 1) (eK (.int 1)))))
def lwB : MS := (sSeq (sSet 5 (eK (.int 1)))
  (sSeq (sFor (iSeqC (eVar 4)) (mgName 6) lwI)
  (sSeq (sPar 2 3 (aCons (eOp TL.bAdd (eOp TL.bMul (eVar 2) (eVar 5)) (eVar 3)) (aCons (eOp TL.bMul (eVar 3) (eVar 5)) aNil)))
  (sSeq (sSet 7 (eCall m_law_divisor (aCons (eVar 2) (aCons (eVar 3) aNil))))
  (sPar 2 3 (aCons (eOp bFdvW (eVar 2) (eVar 7)) (aCons (eOp bFdvW (eVar 3) (eVar 7)) aNil)))))))
theorem lw_eq : s_law_weight = sSeq (sAsg (eTup (aCons (eK (.int 0)) (aCons (eK (.int 1)) aNil))) (mgTup 2 (mgsCons (mgName 2) (mgsCons (mgName 3) mgsNil)))) (sSeq (sFor (iSeqC (eVar 0)) (mgName 4) lwB) (sRet (eTup (aCons (eVar 2) (aCons (eVar 3) aNil))))) := rfl
abbrev lst8 (t : T) (m u l : Nat) (a b c d : Option T) : List (Option T) := [some t, some (.int (m : Nat)), some (.int (u : Nat)), some (.int (l : Nat)), a, b, c, d]
theorem pow18 {m n : Nat} (hm : m ≤ 9) (hn : n ≤ 17) : (m + 1) ^ n < 1000000000000000000 ∧ 0 < (m + 1) ^ n := by
  have h1 : (m + 1) ^ n ≤ 10 ^ n := Nat.pow_le_pow_left (by omega) n
  have h2 : 10 ^ n ≤ 10 ^ 17 := Nat.pow_le_pow_right (by omega) hn
  exact ⟨by omega, Nat.pow_pos (by omega)⟩
theorem inner_ok {t : T} {m u l : Nat} (hm : m ≤ 9) (r : List Nat) (c d : Option T) (h : VH) : ∃ c', sFor (iSeqC (eVar 4)) (mgName 6) lwI (lst8 t m u l (some (lineT r)) (some (.int 1)) c d) h = .nx (lst8 t m u l (some (lineT r)) (some (.int (((m + 1) ^ r.length : Nat) : Int))) c' d) h := by
  obtain ⟨τ', h', z, ⟨c', rfl⟩, rfl⟩ := sFor_inv (mi := iSeqC (eVar 4)) (g := mgName 6) (body := lwI) (τ := lst8 t m u l (some (lineT r)) (some (.int 1)) c d) (h := h) (h1 := h) (rd := fun h => seqS h (lineT r)) (ts := r.map fun c => T.int (c : Nat))
    (fun i τ h' => (∃ c, τ = lst8 t m u l (some (lineT r)) (some (.int (((m + 1) ^ i : Nat) : Int))) c d) ∧ h' = h) rfl ⟨⟨c, by simp⟩, rfl⟩ (fun _ _ _ _ => rfl) (fun i hi τ h' J => by
      obtain ⟨⟨c, rfl⟩, rfl⟩ := J
      refine ⟨lst8 t m u l (some (lineT r)) (some (.int (((m + 1) ^ i : Nat) : Int))) (some (r.map fun c => T.int (c : Nat))[i]) d, h', lst8 t m u l (some (lineT r)) (some (.int (((m + 1) ^ (i + 1) : Nat) : Int))) (some (r.map fun c => T.int (c : Nat))[i]) d, h', rfl, .inl ?_, ⟨_, rfl⟩, rfl⟩
      obtain ⟨τ1, hτ⟩ : ∃ τ1, τ1 = lst8 t m u l (some (lineT r)) (some (.int (((m + 1) ^ i : Nat) : Int))) (some (r.map fun c => T.int (c : Nat))[i]) d := ⟨_, rfl⟩
      rw [← hτ]
      have v1 : eVar 1 τ1 h' = .ok (.int (m : Nat)) h' := by rw [hτ]; rfl
      have v5 : eVar 5 τ1 h' = .ok (.int (((m + 1) ^ i : Nat) : Int)) h' := by rw [hτ]; rfl
      have A := (op_ok (b := TL.bAdd) v1 (rfl : eK (.int 1) τ1 h' = .ok (.int 1) h')).trans (hAdd _ _ h')
      have B := (op_ok (b := TL.bMul) v5 A).trans (hMul (by omega) h')
      have e : (((m + 1) ^ i : Nat) : Int) * ((m : Int) + 1) = (((m + 1) ^ (i + 1) : Nat) : Int) := by
        rw [Nat.pow_succ, Int.natCast_mul]
        rfl
      rw [e] at B
      refine (set_ok (i := 5) B).trans ?_
      rw [hτ]
      rfl)
  rw [List.length_map] at z
  exact ⟨c', z⟩
theorem lwB_ok {t : T} {m u l X Y q : Nat} (hm : m ≤ 9) {r : List Nat} (hr : r.length ≤ 17) (f : Frac X Y u l) (hY : 0 < Y) (hYb : Y < 2 ^ 120) (hq : q * (m + 1) ^ r.length = Y) (b c d : Option T) (h : VH) :
    ∃ (u' l' : Nat) (b' c' d' : Option T), lwB (lst8 t m u l (some (lineT r)) b c d) h = .nx (lst8 t m u' l' (some (lineT r)) b' c' d') h ∧ Frac (X + q) Y u' l' := by
  obtain ⟨p1, p0⟩ := pow18 (m := m) hm hr
  obtain ⟨c1, z⟩ := inner_ok (t := t) (u := u) (l := l) hm r c d h
  obtain ⟨p, hp⟩ : ∃ p, p = (m + 1) ^ r.length := ⟨_, rfl⟩
  rw [← hp] at z p1 p0 hq
  have st := f.step p0 hq
  obtain ⟨g, hg⟩ : ∃ g, g = Nat.gcd (u * p + l) (l * p) := ⟨_, rfl⟩
  rw [← hg] at st
  have lb : l ≤ Y := by rw [(f.uniq hY).2]; exact Nat.div_le_self _ _
  have Lb : l * p < 2 ^ 400 := by
    have h1 : l * p ≤ 2 ^ 120 * 2 ^ 60 := Nat.mul_le_mul (by omega) (by omega)
    have h2 : (2 : Nat) ^ 120 * 2 ^ 60 = 2 ^ 180 := by rw [← Nat.pow_add]
    have h3 : (2 : Nat) ^ 180 < 2 ^ 400 := Nat.pow_lt_pow_right (by omega) (by omega)
    omega
  have Lp : 0 < l * p := Nat.mul_pos f.pos p0
  have gp : 0 < g := by rw [hg]; exact Nat.gcd_pos_of_pos_right _ Lp
  have gb : g < 2 ^ 400 := by
    have : g ≤ l * p := by rw [hg]; exact Nat.gcd_le_right _ Lp
    omega
  obtain ⟨τ, hτ⟩ : ∃ τ, τ = lst8 t m u l (some (lineT r)) (some (.int (p : Nat))) c1 d := ⟨_, rfl⟩
  have v2 : eVar 2 τ h = .ok (.int (u : Nat)) h := by rw [hτ]; rfl
  have v3 : eVar 3 τ h = .ok (.int (l : Nat)) h := by rw [hτ]; rfl
  have v5 : eVar 5 τ h = .ok (.int (p : Nat)) h := by rw [hτ]; rfl
  have A := (op_ok (b := TL.bAdd) ((op_ok (b := TL.bMul) v2 v5).trans (hMul (by omega) h)) v3).trans (hAdd _ _ h)
  have B := (op_ok (b := TL.bMul) v3 v5).trans (hMul (by omega) h)
  have e1 : (u : Int) * (p : Nat) + (l : Nat) = ((u * p + l : Nat) : Int) := by rw [Int.natCast_add, Int.natCast_mul]
  have e2 : (l : Int) * (p : Nat) = ((l * p : Nat) : Int) := by rw [Int.natCast_mul]
  rw [e1] at A
  rw [e2] at B
  have s3 : sPar 2 3 (aCons (eOp TL.bAdd (eOp TL.bMul (eVar 2) (eVar 5)) (eVar 3)) (aCons (eOp TL.bMul (eVar 3) (eVar 5)) aNil)) τ h = .nx (lst8 t m (u * p + l) (l * p) (some (lineT r)) (some (.int (p : Nat))) c1 d) h := by
    unfold sPar
    rw [cons_ok A (cons_ok B (rfl : aNil τ h = .ok [] h)), hτ]
    rfl
  have s4 : sSet 7 (eCall m_law_divisor (aCons (eVar 2) (aCons (eVar 3) aNil))) (lst8 t m (u * p + l) (l * p) (some (lineT r)) (some (.int (p : Nat))) c1 d) h = .nx (lst8 t m (u * p + l) (l * p) (some (lineT r)) (some (.int (p : Nat))) c1 (some (.int (g : Nat)))) h := by
    rw [hg]
    exact set_ok (i := 7) ((call_ok (b := m_law_divisor) (ts := [.int ((u * p + l : Nat) : Int), .int ((l * p : Nat) : Int)]) rfl).trans (lawDiv_ok Lb h))
  obtain ⟨τ2, hτ2⟩ : ∃ τ2, τ2 = lst8 t m (u * p + l) (l * p) (some (lineT r)) (some (.int (p : Nat))) c1 (some (.int (g : Nat))) := ⟨_, rfl⟩
  have w2 : eVar 2 τ2 h = .ok (.int ((u * p + l : Nat) : Int)) h := by rw [hτ2]; rfl
  have w3 : eVar 3 τ2 h = .ok (.int ((l * p : Nat) : Int)) h := by rw [hτ2]; rfl
  have w7 : eVar 7 τ2 h = .ok (.int (g : Nat)) h := by rw [hτ2]; rfl
  have C := (op_ok (b := bFdvW) w2 w7).trans (hFdv gp gb h)
  have D := (op_ok (b := bFdvW) w3 w7).trans (hFdv gp gb h)
  have s5 : sPar 2 3 (aCons (eOp bFdvW (eVar 2) (eVar 7)) (aCons (eOp bFdvW (eVar 3) (eVar 7)) aNil)) τ2 h = .nx (lst8 t m ((u * p + l) / g) (l * p / g) (some (lineT r)) (some (.int (p : Nat))) c1 (some (.int (g : Nat)))) h := by
    unfold sPar
    rw [cons_ok C (cons_ok D (rfl : aNil τ2 h = .ok [] h)), hτ2]
    rfl
  rw [← hτ] at z
  rw [← hτ2] at s4
  exact ⟨_, _, _, _, _, (seq_nx (rfl : sSet 5 (eK (.int 1)) (lst8 t m u l (some (lineT r)) b c d) h = .nx (lst8 t m u l (some (lineT r)) (some (.int 1)) c d) h)).trans ((seq_nx z).trans ((seq_nx s3).trans ((seq_nx s4).trans s5))), st⟩
end BD

set_option Elab.async false
set_option linter.all false
set_option maxRecDepth 100000
set_option maxHeartbeats 4000000
namespace BD
open PySem L2 TL K13
theorem pow120 {m F : Nat} (hm : m ≤ 9) (hF : F ≤ 30) : 0 < (m + 1) ^ F ∧ (m + 1) ^ F < 2 ^ 120 := by
  have h1 : (m + 1) ^ F ≤ 10 ^ F := Nat.pow_le_pow_left (by omega) F
  have h2 : 10 ^ F ≤ 10 ^ 30 := Nat.pow_le_pow_right (by omega) hF
  have h3 : (10 : Nat) ^ 30 < 2 ^ 120 := by decide
  exact ⟨Nat.pow_pos (by omega), by omega⟩
theorem wsum_take {m F : Nat} {rs : List (List Nat)} {i : Nat} (hi : i < rs.length) : wsum m F (rs.take (i + 1)) = wsum m F (rs.take i) + (m + 1) ^ (F - rs[i].length) := by
  unfold wsum
  rw [List.take_succ_eq_append_getElem hi, List.map_append, List.sum_append]
  simp
/-- the law's weight is the package's -/
theorem law_weight_ok {t : T} {rs : List (List Nat)} {m F : Nat} {h : VH} (ht : ∀ h, seqS h t = some (rs.map lineT)) (hm : m ≤ 9) (hF : F ≤ 30) (le : ∀ r ∈ rs, r.length ≤ F) (sh : ∀ r ∈ rs, r.length ≤ 17) : m_law_weight [t, .int (m : Nat)] h = .ok (wT m F rs) h := by
  obtain ⟨p0, p1⟩ := pow120 (m := m) hm hF
  have mi : ∀ u l a b c d, iSeqC (eVar 0) (lst8 t m u l a b c d) h = .ok (fun h => seqS h t) h := fun u l a b c d => by
    have w : walkable h t = true := by unfold walkable; rw [ht]; rfl
    show (if walkable h t = true then Res.ok (fun h => seqS h t) h else .bad) = _
    rw [w]
    rfl
  obtain ⟨τ', h', z, ⟨u, l, a, b, c, d, rfl, f⟩, rfl⟩ := sFor_inv (mi := iSeqC (eVar 0)) (g := mgName 4) (body := lwB) (τ := lst8 t m 0 1 none none none none) (h := h) (h1 := h) (rd := fun h => seqS h t) (ts := rs.map lineT)
    (fun i τ h' => (∃ u l a b c d, τ = lst8 t m u l a b c d ∧ Frac (wsum m F (rs.take i)) ((m + 1) ^ F) u l) ∧ h' = h) (mi _ _ _ _ _ _) ⟨⟨0, 1, none, none, none, none, rfl, Frac.begin⟩, rfl⟩ (fun _ _ h' J => ht h') (fun i hi τ h' J => by
      obtain ⟨⟨u, l, a, b, c, d, rfl, f⟩, rfl⟩ := J
      have hi2 : i < rs.length := by simpa using hi
      have ei : (rs.map lineT)[i] = lineT rs[i] := List.getElem_map ..
      rw [ei]
      have lr := le rs[i] (List.getElem_mem hi2)
      obtain ⟨u', l', b', c', d', e, f'⟩ := lwB_ok (t := t) (q := (m + 1) ^ (F - rs[i].length)) hm (sh rs[i] (List.getElem_mem hi2)) f p0 p1 (by rw [← Nat.pow_add]; congr 1; omega) b c d h'
      refine ⟨lst8 t m u l (some (lineT rs[i])) b c d, h', _, h', rfl, .inl e, ⟨u', l', _, b', c', d', rfl, ?_⟩, rfl⟩
      rw [wsum_take hi2]
      exact f')
  rw [List.length_map, List.take_length] at f
  obtain ⟨e1, e2⟩ := f.uniq p0
  show defM 8 2 s_law_weight _ _ = _
  rw [lw_eq]
  refine defM_rt rfl ((seq_nx (rfl : sAsg (eTup (aCons (eK (.int 0)) (aCons (eK (.int 1)) aNil))) (mgTup 2 (mgsCons (mgName 2) (mgsCons (mgName 3) mgsNil))) (startT 8 [t, .int (m : Nat)]) h' = .nx (lst8 t m 0 1 none none none none) h')).trans ((seq_nx z).trans (ret_ok ?_)))
  show eTup _ (lst8 t m u l a b c d) h' = _
  unfold wT
  rw [← e1, ← e2]
  rfl
end BD

set_option Elab.async false
set_option linter.all false
set_option maxRecDepth 100000
set_option maxHeartbeats 4000000
namespace BD
open PySem L2 TL K13
/-- fractions of one number compare alike -/
theorem Frac.lt {X Y u l k : Nat} (f : Frac X Y u l) (hY : 0 < Y) : u * k < l ↔ X * k < Y := by
  have e : u * k * Y = X * k * l := by rw [Nat.mul_right_comm, f.eq, Nat.mul_right_comm]
  constructor
  · intro h
    apply Decidable.byContradiction
    intro n
    have h1 : u * k * Y < l * Y := Nat.mul_lt_mul_of_pos_right h hY
    have h2 : Y * l ≤ X * k * l := Nat.mul_le_mul_right l (by omega)
    rw [Nat.mul_comm l Y] at h1
    omega
  · intro h
    apply Decidable.byContradiction
    intro n
    have h1 : X * k * l < Y * l := Nat.mul_lt_mul_of_pos_right h f.pos
    have h2 : l * Y ≤ u * k * Y := Nat.mul_le_mul_right Y (by omega)
    rw [Nat.mul_comm l Y] at h2
    omega
section
variable {size : Nat} {rows : List (List Nat)} {mine its : List Nat}
theorem light_ok (R : Rows size rows) {m : Nat} (m1 : 1 ≤ m) (m9 : m ≤ 9) (second : Bool) (h : VH) : m_is_light [standT size rows mine its, .int (m : Nat), .str (if second = true then "second" else "first")] h =
    .ok (.bl (decide (wsum m (freeL size mine its).length (restsL rows mine its) * (if second = true then 1 else m + 1) < (m + 1) ^ (freeL size mine its).length))) h := by
  have fl := free_len (mine := mine) (its := its) R
  obtain ⟨τ, hτ⟩ : ∃ τ, τ = startT 5 [standT size rows mine its, .int (m : Nat), .str (if second = true then "second" else "first")] := ⟨_, rfl⟩
  have v0 : eVar 0 τ h = .ok (standT size rows mine its) h := by rw [hτ]; rfl
  have v1 : eVar 1 τ h = .ok (.int (m : Nat)) h := by rw [hτ]; rfl
  have v2 : eVar 2 τ h = .ok (.str (if second = true then "second" else "first")) h := by rw [hτ]; rfl
  have nil : aNil τ h = .ok [] h := rfl
  have mv : m_check_mover [.str (if second = true then "second" else "first")] h = .ok .non h := by cases second <;> with_unfolding_all rfl
  have A := (call_ok (b := m_weight_of) (cons_ok (pRests R v0) (cons_ok v1 (cons_ok (pLen R v0) nil)))).trans (weight_of_ok (t := restsT (restsL rows mine its)) (rs := restsL rows mine its) rfl m9 (by omega) (by have := rests_len (mine := mine) (its := its) R; omega) (fun r hr => rest_le R hr))
  obtain ⟨X, hX⟩ : ∃ X, X = wsum m (freeL size mine its).length (restsL rows mine its) := ⟨_, rfl⟩
  obtain ⟨Y, hY⟩ : ∃ Y, Y = (m + 1) ^ (freeL size mine its).length := ⟨_, rfl⟩
  rw [← hX, ← hY] at A
  rw [← hX, ← hY]
  have s4 : sAsg (eCall m_weight_of (aCons (eProp 1 m_Stand_rests (eVar 0)) (aCons (eVar 1) (aCons (eCall fLen (aCons (eProp 1 m_Stand_free (eVar 0)) aNil)) aNil)))) (mgTup 2 (mgsCons (mgName 3) (mgsCons (mgName 4) mgsNil))) τ h = .nx [some (standT size rows mine its), some (.int (m : Nat)), some (.str (if second = true then "second" else "first")), some (.int (X : Nat)), some (.int (Y : Nat))] h := by
    unfold sAsg
    rw [A, hτ]
    rfl
  obtain ⟨τ2, hτ2⟩ : ∃ τ2, τ2 = [some (standT size rows mine its), some (T.int (m : Nat)), some (.str (if second = true then "second" else "first")), some (.int (X : Nat)), some (.int (Y : Nat))] := ⟨_, rfl⟩
  rw [← hτ2] at s4
  have w1 : eVar 1 τ2 h = .ok (.int (m : Nat)) h := by rw [hτ2]; rfl
  have w2 : eVar 2 τ2 h = .ok (.str (if second = true then "second" else "first")) h := by rw [hτ2]; rfl
  have w3 : eVar 3 τ2 h = .ok (.int (X : Nat)) h := by rw [hτ2]; rfl
  have w4 : eVar 4 τ2 h = .ok (.int (Y : Nat)) h := by rw [hτ2]; rfl
  have C := test_ok ((op_ok (b := TL.bEq) w2 (rfl : eK (.str "second") τ2 h = .ok (.str "second") h)).trans (TL.eq_strs _ _ h))
  have fin : eIf (bTest (eOp TL.bEq (eVar 2) (eK (.str "second")))) (eOp TL.bLt (eVar 3) (eVar 4)) (eOp TL.bLt (eOp TL.bMul (eVar 3) (eOp TL.bAdd (eVar 1) (eK (.int 1)))) (eVar 4)) τ2 h = .ok (.bl (decide (X * (if second = true then 1 else m + 1) < Y))) h := by
    cases second with
    | true =>
      have e : ((if (true : Bool) = true then (("second" : String) : Str) else (("first" : String) : Str)) == (("second" : String) : Str)) = true := by decide +kernel
      rw [e] at C
      refine (hIfT C).trans ((op_ok (b := TL.bLt) w3 w4).trans ((hLt _ _ h).trans ?_))
      have : decide ((X : Int) < (Y : Nat)) = decide (X * 1 < Y) := decide_eq_decide.mpr (by omega)
      rw [this]
      rfl
    | false =>
      have e : ((if (false : Bool) = true then (("second" : String) : Str) else (("first" : String) : Str)) == (("second" : String) : Str)) = false := by decide +kernel
      rw [e] at C
      have P := (op_ok (b := TL.bMul) w3 ((op_ok (b := TL.bAdd) w1 (rfl : eK (.int 1) τ2 h = .ok (.int 1) h)).trans (hAdd _ _ h))).trans (hMul (by omega) h)
      have e2 : (X : Int) * ((m : Int) + 1) = ((X * (m + 1) : Nat) : Int) := by rw [Int.natCast_mul]; rfl
      rw [e2] at P
      refine (hIfF C).trans ((op_ok (b := TL.bLt) P w4).trans ((hLt _ _ h).trans ?_))
      have : decide (((X * (m + 1) : Nat) : Int) < (Y : Nat)) = decide (X * (m + 1) < Y) := decide_eq_decide.mpr (by omega)
      rw [this]
      rfl
  refine defM_rt rfl ?_
  rw [← hτ]
  exact (seq_nx (expr_ok ((call_ok (b := m_check_stand) (cons_ok v0 nil)).trans (chk_stand h)))).trans ((seq_nx (expr_ok ((call_ok (b := m_check_many) (cons_ok v1 nil)).trans (chk_many m1 m9 h)))).trans ((seq_nx (expr_ok ((call_ok (b := m_check_mover) (cons_ok v2 nil)).trans mv))).trans ((seq_nx s4).trans (ret_ok fin))))
end
end BD

set_option Elab.async false
set_option linter.all false
set_option maxRecDepth 100000
set_option maxHeartbeats 4000000
namespace BD
open PySem L2 TL K13
theorem app_assoc (a b c : Str) : a ++ b ++ c = a ++ (b ++ c) := ext_tl (by rw [tl_append, tl_append, tl_append, tl_append, List.append_assoc])
theorem app_nil (a : Str) : a ++ (("" : String) : Str) = a := ext_tl (by rw [tl_append, show tl ("" : String) = [] by decide +kernel, List.append_nil])
theorem nil_app (a : Str) : (("" : String) : Str) ++ a = a := ext_tl (by rw [tl_append, show tl ("" : String) = [] by decide +kernel, List.nil_append])
theorem board_eq (size : Nat) (rows : List (List Nat)) : boardS size rows = numS size ++ ((":" : String) : Str) ++ tailS rows := by
  unfold boardS
  rw [join_eq]
  rfl
theorem hJoin {ys : List Str} {a : Str} {f g : ME} {τ : TS_} {h : VH} (e : f τ h = .ok (.str a) h) (e2 : g τ h = .ok (.lst (ys.map T.str)) h) (hb : (ys.map (·.length)).sum + ys.length * a.length ≤ 1000000) : eMt "str" mJoin f (aCons g aNil) τ h = .ok (.str (Txt.join a ys)) h := by
  have tt : tyT h "str" (.str a) = true := by unfold tyT; rfl
  have s : seqOf h (.lst (ys.map T.str)) = some (ys.map T.str) := rfl
  unfold eMt
  simp only [e, tt, if_true, cons_ok e2 (rfl : aNil τ h = .ok [] h), mJoin, s, strsOf_map, hb]
theorem ne_nilS {l : List Str} (h : VH) : bNe (.lst (l.map T.str)) (.lst []) h = .ok (.bl (!l.isEmpty)) h := by
  have e1 : T.dat h 10 (.lst (l.map T.str)) = some (.list (l.map PyData.str)) := by
    rw [dat_lst, List.mapM_map]
    have := mapM_some (f := fun z => T.dat h 9 (.str z)) (g := PyData.str) (l := l) fun z _ => dat_str
    have e2 : List.mapM ((T.dat h 9) ∘ T.str) l = some (l.map PyData.str) := this
    first | rw [this] | rw [e2]
    rfl
  have e2 : T.dat h 10 (.lst []) = some (.list []) := rfl
  unfold bNe bEqG
  rw [e1, e2]
  cases l <;> simp [PyData.eqv, PyData.eqvAll]
theorem word_ok {size : Nat} {rows : List (List Nat)} (R : Rows size rows) (h : VH) : m_law_word_of [.int (size : Nat), rowsLT rows] h = .ok (.str (boardS size rows)) h := by
  have inner : ∀ l ∈ rows, ∀ a b c d, eMt "str" mJoin (eK (.str " ")) (aCons (eL (mLc (iSeqC (eVar 3)) [4] (mgName 4) bYes (eCall fStr (aCons (eVar 4) aNil)))) aNil) [a, b, c, some (lineT l), d] h = .ok (.str (wordsS l)) h := fun l hl a b c d => by
    have L := R.line l hl
    have z := mLc_map (mi := iSeqC (eVar 3)) (ws := [4]) (g := mgName 4) (e := eCall fStr (aCons (eVar 4) aNil)) (τ := [a, b, c, some (lineT l), d]) (h := h) (rd := fun h => seqS h (lineT l)) (ts := l.map fun c => T.int (c : Nat)) rfl rfl (by rw [List.length_map]; have := L.len; have := R.s1; omega) (fun t => match t with | .int i => .str (numS i.toNat) | t => t) (fun t ht => by
      obtain ⟨n, hn, rfl⟩ := List.mem_map.mp ht
      have lt := L.lt n hn
      exact ⟨[a, b, c, some (lineT l), some (.int (n : Nat))], rfl, (call_ok (ts := [.int (n : Nat)]) rfl).trans (fStr_num (by have := R.s1; omega) h)⟩)
    rw [List.map_map] at z
    have z2 : (l.map ((fun t => match t with | .int i => T.str (numS i.toNat) | t => t) ∘ fun c : Nat => T.int (c : Nat))) = (l.map numS).map T.str := by rw [List.map_map]; rfl
    rw [z2] at z
    exact hJoin (ys := l.map numS) rfl (eL_ok z) (by
      have h1 := words_sum R.s1 L
      have h2 := L.len
      have h3 := R.s1
      have e : ((" " : String) : Str).length = 1 := by decide
      rw [List.length_map, e]
      omega)
  have z := mLc_map (mi := iSeqC (eVar 1)) (ws := [3]) (g := mgName 3) (e := eMt "str" mJoin (eK (.str " ")) (aCons (eL (mLc (iSeqC (eVar 3)) [4] (mgName 4) bYes (eCall fStr (aCons (eVar 4) aNil)))) aNil)) (τ := startT 5 [.int (size : Nat), rowsLT rows]) (h := h) (rd := fun h => seqS h (rowsLT rows)) (ts := rows.map lineT) rfl rfl (by rw [List.length_map]; have := R.len; omega) (fun t => match eMt "str" mJoin (eK (.str " ")) (aCons (eL (mLc (iSeqC (eVar 3)) [4] (mgName 4) bYes (eCall fStr (aCons (eVar 4) aNil)))) aNil) [none, none, none, some t, none] h with | .ok u _ => u | _ => .non) (fun t ht => by
    obtain ⟨l, hl, rfl⟩ := List.mem_map.mp ht
    refine ⟨[some (.int (size : Nat)), some (rowsLT rows), none, some (lineT l), none], rfl, ?_⟩
    show _ = Res.ok (match eMt "str" mJoin (eK (.str " ")) (aCons (eL (mLc (iSeqC (eVar 3)) [4] (mgName 4) bYes (eCall fStr (aCons (eVar 4) aNil)))) aNil) [none, none, none, some (lineT l), none] h with | .ok u _ => u | _ => T.non) h
    rw [inner l hl, inner l hl])
  have e : (rows.map lineT).map (fun t => match eMt "str" mJoin (eK (.str " ")) (aCons (eL (mLc (iSeqC (eVar 3)) [4] (mgName 4) bYes (eCall fStr (aCons (eVar 4) aNil)))) aNil) [none, none, none, some t, none] h with | .ok u _ => u | _ => T.non) = (rows.map wordsS).map T.str := by
    rw [List.map_map, List.map_map]
    refine List.map_congr_left fun l hl => ?_
    show (match eMt "str" mJoin (eK (.str " ")) (aCons (eL (mLc (iSeqC (eVar 3)) [4] (mgName 4) bYes (eCall fStr (aCons (eVar 4) aNil)))) aNil) [none, none, none, some (lineT l), none] h with | .ok u _ => u | _ => T.non) = _
    rw [inner l hl]
    rfl
  rw [e] at z
  have s1 := set_ok (i := 2) (eL_ok z)
  obtain ⟨τ, hτ⟩ : ∃ τ, τ = [some (T.int (size : Nat)), some (rowsLT rows), some (T.lst ((rows.map wordsS).map T.str)), none, none] := ⟨_, rfl⟩
  have v0 : eVar 0 τ h = .ok (.int (size : Nat)) h := by rw [hτ]; rfl
  have v2 : eVar 2 τ h = .ok (.lst ((rows.map wordsS).map T.str)) h := by rw [hτ]; rfl
  have J := hJoin (ys := rows.map wordsS) (a := ", ") (f := eK (.str ", ")) (g := eVar 2) (τ := τ) (h := h) rfl v2 (by
    have h1 := lines_sum R
    have h2 := R.len
    have e : ((", " : String) : Str).length = 2 := by decide
    rw [List.length_map, e]
    omega)
  have nn := num_len R.s1
  have ll := lines_len R
  have c1 : ((":" : String) : Str).length = 1 := by decide
  have S1 := (op_ok (b := TL.bAdd) ((call_ok (b := fStr) (cons_ok v0 (rfl : aNil τ h = .ok [] h))).trans (fStr_num R.s1 h)) (rfl : eK (.str ":") τ h = .ok (.str ":") h)).trans (hAppS (by omega))
  have fin : ∀ sp : Str, sp.length ≤ 1 → sp ++ linesS rows = tailS rows → eIf (bTest (eOp TL.bNe (eVar 2) (eL (aLim aNil)))) (eK (.str " ")) (eK (.str "")) τ h = .ok (.str sp) h → m_law_word_of [.int (size : Nat), rowsLT rows] h = .ok (.str (boardS size rows)) h := fun sp hsp eq q => by
    have S2 := (op_ok (b := TL.bAdd) S1 q).trans (hAppS (by rw [TL.len_app]; omega))
    have S3 := (op_ok (b := TL.bAdd) S2 J).trans (hAppS (by rw [TL.len_app, TL.len_app]; unfold linesS at ll; omega))
    rw [app_assoc, show sp ++ Txt.join ", " (rows.map wordsS) = tailS rows from eq, ← board_eq] at S3
    refine defM_rt rfl ((seq_nx s1).trans ?_)
    rw [hτ] at S3
    exact ret_ok S3
  have N := test_ok ((op_ok (b := TL.bNe) v2 (rfl : eL (aLim aNil) τ h = .ok (.lst []) h)).trans (ne_nilS h))
  by_cases q : rows = []
  · have e : (rows.map wordsS).isEmpty = true := by rw [q]; rfl
    rw [e] at N
    refine fin "" (by decide) ?_ ((hIfF N).trans rfl)
    rw [nil_app]
    unfold tailS
    rw [if_pos q, q]
    decide +kernel
  · have e : (rows.map wordsS).isEmpty = false := by
      cases rows with
      | nil => exact (q rfl).elim
      | cons _ _ => rfl
    rw [e] at N
    refine fin " " (by decide) ?_ ((hIfT N).trans rfl)
    unfold tailS
    rw [if_neg q]
end BD

set_option Elab.async false
set_option linter.all false
set_option maxRecDepth 100000
set_option maxHeartbeats 4000000
namespace BD
open PySem L2 TL
/-! ### sorted -/
def srt (l : List Nat) : List Nat := l.mergeSort fun a b => decide (a ≤ b)
theorem srt_mem {c : Nat} {l : List Nat} : c ∈ srt l ↔ c ∈ l := List.mem_mergeSort
theorem srt_len (l : List Nat) : (srt l).length = l.length := List.length_mergeSort _
theorem srt_asc {l : List Nat} (nd : l.Nodup) : (srt l).Pairwise (· < ·) := by
  have pw := List.pairwise_mergeSort (le := fun a b : Nat => decide (a ≤ b)) (fun a b c h1 h2 => by simp only [decide_eq_true_eq] at *; omega) (fun a b => by simp only [Bool.or_eq_true, decide_eq_true_eq]; omega) l
  have nd2 : (srt l).Nodup := (List.mergeSort_perm _ _).nodup_iff.mpr nd
  refine (List.Pairwise.and nd2 pw).imp fun {a b} h => ?_
  have h1 := h.1
  have h2 := of_decide_eq_true h.2
  omega
theorem sort_gen {α : Type} (l : List α) (f : α → T) (g : α → PyData) (le : α → α → Bool) (h : ∀ a b, (!W.dataLt (g b) (g a)) = le a b) : sortT (l.map f) (l.map g) = (l.mergeSort le).map f := by
  unfold sortT
  rw [List.zip_map', ← List.map_mergeSort (r := le) (fun a _ b _ => (h a b).symm), List.map_map]
  rfl
theorem sorted_ints {t : T} {l : List Nat} {h : VH} (ht : TL.listOf h t = some (l.map fun c => T.int (c : Nat))) : fSorted [t] h = .ok ((srt l).map fun c => .int (c : Nat)) h := by
  have e1 : (l.map fun c : Nat => T.int (c : Nat)).mapM (T.dat h 10) = some (l.map fun c : Nat => PyData.int (c : Nat)) := by
    rw [List.mapM_map]
    exact mapM_some fun c _ => dat_int
  have ok : sortOk (l.map fun c : Nat => PyData.int (c : Nat)) = true := by
    unfold sortOk
    rw [Bool.and_eq_true, Bool.or_eq_true]
    refine ⟨List.all_eq_true.mpr fun d hd => List.all_eq_true.mpr fun e he => ?_, .inr (List.all_eq_true.mpr fun d hd => ?_)⟩
    · obtain ⟨a, _, rfl⟩ := List.mem_map.mp hd
      obtain ⟨b, _, rfl⟩ := List.mem_map.mp he
      rfl
    · obtain ⟨a, _, rfl⟩ := List.mem_map.mp hd
      rfl
  unfold fSorted
  simp only [ht, e1, ok, if_true]
  rw [sort_gen l (fun c : Nat => T.int (c : Nat)) (fun c : Nat => PyData.int (c : Nat)) (fun a b => decide (a ≤ b)) (fun a b => by
    rw [W.dataLt_int]
    by_cases q : a ≤ b
    · rw [decide_eq_true q, decide_eq_false (by omega)]; rfl
    · rw [decide_eq_false q, decide_eq_true (by omega)]; rfl)]
  rfl
abbrev lnD (r : List Nat) : PyData := .tuple (r.map fun c => .int (c : Nat))
def rowLe (a b : List Nat) : Bool := !W.dataLt (lnD b) (lnD a)
def srtR (rs : List (List Nat)) : List (List Nat) := rs.mergeSort rowLe
theorem rowLt_eq (a b : List Nat) : W.dataLt (lnD a) (lnD b) = decide ((a.map fun c : Nat => (c : Int)) < b.map fun c : Nat => (c : Int)) := by
  have e : ∀ l : List Nat, (l.map fun c : Nat => PyData.int (c : Nat)) = (l.map fun c : Nat => (c : Int)).map PyData.int := fun l => by rw [List.map_map]; rfl
  unfold lnD
  rw [W.dataLt_tuple, e, e]
  exact W.dataLt_ints _ _
theorem rowLe_iff {a b : List Nat} : rowLe a b = true ↔ (a.map fun c : Nat => (c : Int)) ≤ b.map fun c : Nat => (c : Int) := by
  unfold rowLe
  rw [rowLt_eq, Bool.not_eq_true', decide_eq_false_iff_not]
  exact List.not_lt
theorem cast_inj {a b : List Nat} (h : (a.map fun c : Nat => (c : Int)) = b.map fun c : Nat => (c : Int)) : a = b := by
  induction a generalizing b with
  | nil => cases b with
    | nil => rfl
    | cons _ _ => cases h
  | cons x a ih => cases b with
    | nil => cases h
    | cons y b =>
      simp only [List.map_cons, List.cons.injEq] at h
      rw [ih h.2, show x = y by omega]
theorem sorted_rows {t : T} {rs : List (List Nat)} {h : VH} (ht : TL.listOf h t = some (rs.map lineT)) (ne : ∀ r ∈ rs, r ≠ []) : fSorted [t] h = .ok ((srtR rs).map lineT) h := by
  have e1 : (rs.map lineT).mapM (T.dat h 10) = some (rs.map lnD) := by
    rw [List.mapM_map]
    exact mapM_some fun r _ => line_dat r h 9
  have ok : sortOk (rs.map lnD) = true := by
    unfold sortOk
    rw [Bool.and_eq_true, Bool.or_eq_true]
    refine ⟨List.all_eq_true.mpr fun d hd => List.all_eq_true.mpr fun e he => ?_, .inl (List.all_eq_true.mpr fun d hd => ?_)⟩
    · obtain ⟨a, _, rfl⟩ := List.mem_map.mp hd
      obtain ⟨b, _, rfl⟩ := List.mem_map.mp he
      have := W.alike_ints (a.map fun c : Nat => (c : Int)) (b.map fun c : Nat => (c : Int))
      rw [List.map_map, List.map_map] at this
      unfold W.alike
      exact this
    · obtain ⟨a, ha, rfl⟩ := List.mem_map.mp hd
      cases a with
      | nil => exact (ne _ ha rfl).elim
      | cons x a => rfl
  unfold fSorted
  simp only [ht, e1, ok, if_true]
  rw [sort_gen rs lineT lnD rowLe fun a b => rfl]
  rfl
theorem srtR_asc {rs : List (List Nat)} (nd : rs.Nodup) : (srtR rs).Pairwise fun a b => W.dataLt (lnD a) (lnD b) = true := by
  have pw := List.pairwise_mergeSort (le := rowLe) (fun a b c h1 h2 => rowLe_iff.mpr (List.le_trans (rowLe_iff.mp h1) (rowLe_iff.mp h2))) (fun a b => by
    rw [Bool.or_eq_true, rowLe_iff, rowLe_iff]
    exact List.le_total _ _) rs
  have nd2 : (srtR rs).Nodup := (List.mergeSort_perm _ _).nodup_iff.mpr nd
  refine (List.Pairwise.and nd2 pw).imp fun {a b} h => ?_
  rw [rowLt_eq]
  refine decide_eq_true (Decidable.byContradiction fun n => h.1 ?_)
  exact cast_inj (List.le_antisymm (rowLe_iff.mp h.2) (List.not_lt.mp n))
theorem srtR_mem {r : List Nat} {rs : List (List Nat)} : r ∈ srtR rs ↔ r ∈ rs := List.mem_mergeSort
theorem srtR_len (rs : List (List Nat)) : (srtR rs).length = rs.length := List.length_mergeSort _
/-! ### the stand behind a move -/
section
variable {size : Nat} {rows : List (List Nat)} {mine its : List Nat}
def moreL (its : List Nat) (c : Nat) : List Nat := srt (its ++ [c])
theorem more_mem {x c : Nat} : x ∈ moreL its c ↔ x ∈ its ∨ x = c := by unfold moreL; rw [srt_mem, List.mem_append, List.mem_singleton]
theorem more_hand {c : Nat} (I : Hand size its mine) (hc : c ∈ freeL size mine its) : Hand size (moreL its c) mine := by
  obtain ⟨c1, c2, c3⟩ := free_mem.mp hc
  refine ⟨srt_asc ?_, fun x hx => ?_, fun x hx => ?_⟩
  · rw [List.nodup_append]
    refine ⟨I.asc.imp fun h => Nat.ne_of_lt h, by simp, fun a ha b hb z => ?_⟩
    rw [List.mem_singleton.mp hb] at z
    exact c3 (z ▸ ha)
  · rcases more_mem.mp hx with q | rfl
    · exact I.lt x q
    · exact c1
  · rcases more_mem.mp hx with q | rfl
    · exact I.out x q
    · exact c2
theorem more_free (c : Nat) : freeL size mine (moreL its c) = (freeL size mine its).filter fun x => !decide (x = c) := by
  unfold freeL
  rw [List.filter_filter]
  refine List.filter_congr fun x _ => ?_
  have e : decide (x ∈ moreL its c) = (decide (x ∈ its) || decide (x = c)) := by
    rw [Bool.eq_iff_iff, Bool.or_eq_true, decide_eq_true_iff, decide_eq_true_iff, decide_eq_true_iff, more_mem]
  rw [e]
  cases decide (x ∈ mine) <;> cases decide (x ∈ its) <;> cases decide (x = c) <;> rfl
theorem more_rests {c : Nat} (hc : c ∉ mine) : restsL rows mine (moreL its c) = (restsL rows mine its).filter fun r => !decide (c ∈ r) := by
  unfold restsL
  rw [List.filter_map, List.filter_filter]
  refine congrArg (List.map _) (List.filter_congr fun l hl => ?_)
  have e1 : ((fun r => !decide (c ∈ r)) ∘ restL mine) l = !decide (c ∈ l) := by
    show (!decide (c ∈ restL mine l)) = _
    unfold restL
    rw [show decide (c ∈ l.filter fun c => !decide (c ∈ mine)) = decide (c ∈ l) from decide_eq_decide.mpr (by rw [List.mem_filter]; simp [hc])]
  rw [e1]
  clear e1 hl
  unfold liveB
  induction l with
  | nil => rfl
  | cons x l ih =>
    rw [List.any_cons, List.any_cons]
    have e : decide (x ∈ moreL its c) = (decide (x ∈ its) || decide (c = x)) := by
      rw [Bool.eq_iff_iff, Bool.or_eq_true, decide_eq_true_iff, decide_eq_true_iff, decide_eq_true_iff, more_mem, eq_comm (a := x)]
    have e2 : decide (c ∈ x :: l) = (decide (c = x) || decide (c ∈ l)) := by
      rw [Bool.eq_iff_iff, Bool.or_eq_true, decide_eq_true_iff, decide_eq_true_iff, decide_eq_true_iff, List.mem_cons]
    rw [e, e2]
    revert ih
    generalize (l.any fun c_1 => decide (c_1 ∈ moreL its c)) = p
    generalize (l.any fun c => decide (c ∈ its)) = q
    cases p <;> cases q <;> cases decide (x ∈ its) <;> cases decide (c = x) <;> cases decide (c ∈ l) <;> simp
end
end BD

set_option Elab.async false
set_option linter.all false
set_option maxRecDepth 100000
set_option maxHeartbeats 4000000
namespace BD
open PySem L2 TL K13
section
variable {size : Nat} {rows : List (List Nat)} {mine its : List Nat}
theorem star_ok {f : ME} {g : MA} {τ : TS_} {h : VH} {t : T} {ts us : List T} (e : f τ h = .ok t h) (s : TL.seqOf h t = some ts) (e2 : g τ h = .ok us h) : aStar f g τ h = .ok (ts ++ us) h := by unfold aStar; simp only [e, s, e2]
theorem more_ok {f : ME} {g : ME} {τ : TS_} {h : VH} {l : List Nat} {c : Nat} (e : f τ h = .ok (lineT l) h) (e2 : g τ h = .ok (.int (c : Nat)) h) (hl : l.length ≤ 1000) :
    eCall fTuple (aCons (eL (mCall fSorted (aCons (eL (aLim (aStar f (aCons g aNil)))) aNil))) aNil) τ h = .ok (lineT (moreL l c)) h := by
  have A : aStar f (aCons g aNil) τ h = .ok ((l ++ [c]).map fun c => T.int (c : Nat)) h := by
    rw [List.map_append]
    exact star_ok e rfl (cons_ok e2 rfl)
  have B : eL (aLim (aStar f (aCons g aNil))) τ h = .ok (.lst ((l ++ [c]).map fun c => T.int (c : Nat))) h := by
    refine eL_ok ?_
    unfold aLim
    rw [A]
    simp only
    rw [if_pos (by rw [List.length_map, List.length_append]; simp; omega)]
  have C : mCall fSorted (aCons (eL (aLim (aStar f (aCons g aNil)))) aNil) τ h = .ok ((moreL l c).map fun c => T.int (c : Nat)) h := by
    unfold mCall
    rw [cons_ok B (rfl : aNil τ h = .ok [] h)]
    exact sorted_ints rfl
  exact (call_ok (b := fTuple) (cons_ok (eL_ok C) rfl)).trans rfl
theorem behind_eq : s_behind = sSeq (sIf (bTest (eOp TL.bEq (eVar 1) (eK (.str "first")))) (sRet (eCall (cutM (makeM 1 m_Stand___init__)) (aCons (eFld 1 0 (eVar 0)) (aCons (eCall fTuple (aCons (eL (mCall fSorted (aCons (eL (aLim (aStar (eFld 1 1 (eVar 0)) (aCons (eVar 2) aNil)))) aNil))) aNil)) (aCons (eFld 1 2 (eVar 0)) aNil))))) sNil)
  (sRet (eCall (cutM (makeM 1 m_Stand___init__)) (aCons (eFld 1 0 (eVar 0)) (aCons (eFld 1 1 (eVar 0)) (aCons (eCall fTuple (aCons (eL (mCall fSorted (aCons (eL (aLim (aStar (eFld 1 2 (eVar 0)) (aCons (eVar 2) aNil)))) aNil))) aNil)) aNil))))) := rfl
theorem behind2_ok {c : Nat} (s1 : size ≤ 30) (M : Hand size mine []) (I : Hand size its mine) (hc : c ∈ freeL size mine its) {h : VH} (hl : h.all (VO.lowR h.length) = true) :
    m_behind [standT size rows mine its, .str "second", .int (c : Nat)] h = .ok (standT size rows mine (moreL its c)) h := by
  obtain ⟨τ, hτ⟩ : ∃ τ, τ = startT 3 [standT size rows mine its, .str "second", .int (c : Nat)] := ⟨_, rfl⟩
  have v0 : eVar 0 τ h = .ok (standT size rows mine its) h := by rw [hτ]; rfl
  have v1 : eVar 1 τ h = .ok (.str "second") h := by rw [hτ]; rfl
  have v2 : eVar 2 τ h = .ok (.int (c : Nat)) h := by rw [hτ]; rfl
  have A := test_ok ((op_ok (b := TL.bEq) v1 (rfl : eK (.str "first") τ h = .ok (.str "first") h)).trans (TL.eq_strs _ _ h))
  rw [show ((("second" : String) : Str) == (("first" : String) : Str)) = false by decide +kernel] at A
  have B := more_ok (fld2 v0) v2 (by have := I.len; omega)
  have C := (call_ok (b := cutM (makeM 1 m_Stand___init__)) (cons_ok (fld0 v0) (cons_ok (fld1 v0) (cons_ok B (rfl : aNil τ h = .ok [] h))))).trans (stand_ok (rows := rows) M (more_hand I hc) hl)
  show defM 3 3 s_behind _ _ = _
  rw [behind_eq]
  refine defM_rt rfl ?_
  rw [← hτ]
  exact (seq_nx ((if_f A).trans rfl)).trans (ret_ok C)
/-! ### the greatest, the first of them -/
def pickS (g : Nat → Nat) (b : Int × Nat) (c : Nat) : Int × Nat := if b.1 < ((g c : Nat) : Int) then (((g c : Nat) : Int), c) else b
def pick (g : Nat → Nat) (l : List Nat) : Int × Nat := l.foldl (pickS g) (-1, 0)
theorem pick_take (g : Nat → Nat) {l : List Nat} {i : Nat} (hi : i < l.length) : pick g (l.take (i + 1)) = pickS g (pick g (l.take i)) l[i] := by
  unfold pick
  rw [List.take_succ_eq_append_getElem hi, List.foldl_append]
  rfl
theorem pick_in (g : Nat → Nat) : ∀ (l : List Nat), l ≠ [] → 0 ≤ (pick g l).1 ∧ (pick g l).2 ∈ l := by
  have key : ∀ (l : List Nat) (b : Int × Nat), 0 ≤ b.1 → 0 ≤ (l.foldl (pickS g) b).1 ∧ ((l.foldl (pickS g) b).2 = b.2 ∨ (l.foldl (pickS g) b).2 ∈ l) := by
    intro l
    induction l with
    | nil => intro b hb; exact ⟨hb, .inl rfl⟩
    | cons c l ih =>
      intro b hb
      have h1 : 0 ≤ (pickS g b c).1 := by
        unfold pickS
        split
        · show (0 : Int) ≤ ((g c : Nat) : Int)
          omega
        · exact hb
      obtain ⟨a, q⟩ := ih (pickS g b c) h1
      refine ⟨a, ?_⟩
      rw [List.foldl_cons]
      rcases q with q | q
      · rw [q]
        unfold pickS
        split
        · exact .inr List.mem_cons_self
        · exact .inl rfl
      · exact .inr (List.mem_cons_of_mem _ q)
  intro l ne
  cases l with
  | nil => exact (ne rfl).elim
  | cons c l =>
    have e : pickS g (-1, 0) c = (((g c : Nat) : Int), c) := by unfold pickS; rw [if_pos (show (-1 : Int) < ((g c : Nat) : Int) by omega)]
    have z := key l (((g c : Nat) : Int), c) (show (0 : Int) ≤ ((g c : Nat) : Int) by omega)
    unfold pick
    rw [List.foldl_cons, e]
    refine ⟨z.1, ?_⟩
    rcases z.2 with q | q
    · rw [q]; exact List.mem_cons_self
    · exact List.mem_cons_of_mem _ q
abbrev dng (m : Nat) (rs : List (List Nat)) (F : Nat) (c : Nat) : Nat := wsum m F (withL rs c)
def mdB : MS := (sSeq (sSet 5 (eOp TL.bIx (eCall m_weight_of (aCons (eL (mLc (iSeqC (eProp 1 m_Stand_rests (eVar 0))) [6] (mgName 6) (bTest (eOp TL.bIn (eVar 4) (eVar 6))) (eVar 6))) (aCons (eVar 1) (aCons (eVar 2) aNil)))) (eK (.int 0))))
  (sSet 3 (eIf (bTest (eOp TL.bGt (eVar 5) (eOp TL.bIx (eVar 3) (eK (.int 0))))) (eTup (aCons (eVar 5) (aCons (eVar 4) aNil))) (eVar 3))))
theorem md_eq : s_most_dangerous = sSeq (sPar 2 3 (aCons (eCall fLen (aCons (eProp 1 m_Stand_free (eVar 0)) aNil)) (aCons (eTup (aCons (eNeg (eK (.int 1))) (aCons (eK (.int 0)) aNil))) aNil))) (sSeq (sFor (iSeqC (eProp 1 m_Stand_free (eVar 0))) (mgName 4) mdB) (sRet (eOp TL.bIx (eVar 3) (eK (.int 1))))) := rfl
abbrev best7 (s : T) (m F : Nat) (b : Int × Nat) (a c d : Option T) : TS_ := [some s, some (.int (m : Nat)), some (.int (F : Nat)), some (.tup [.int b.1, .int (b.2 : Nat)]), a, c, d]
theorem most_ok (R : Rows size rows) {m : Nat} (m9 : m ≤ 9) (h : VH) : m_most_dangerous [standT size rows mine its, .int (m : Nat)] h = .ok (.int ((pick (dng m (restsL rows mine its) (freeL size mine its).length) (freeL size mine its)).2 : Nat)) h := by
  have fl := free_len (mine := mine) (its := its) R
  obtain ⟨F, hF⟩ : ∃ F, F = (freeL size mine its).length := ⟨_, rfl⟩
  obtain ⟨rs, hrs⟩ : ∃ rs, rs = restsL rows mine its := ⟨_, rfl⟩
  have s1 : sPar 2 3 (aCons (eCall fLen (aCons (eProp 1 m_Stand_free (eVar 0)) aNil)) (aCons (eTup (aCons (eNeg (eK (.int 1))) (aCons (eK (.int 0)) aNil))) aNil)) (startT 7 [standT size rows mine its, .int (m : Nat)]) h = .nx (best7 (standT size rows mine its) m F (-1, 0) none none none) h := by
    have A := pLen (τ := startT 7 [standT size rows mine its, .int (m : Nat)]) (h := h) (f := eVar 0) R rfl
    unfold sPar
    rw [cons_ok A (rfl : aCons (eTup (aCons (eNeg (eK (.int 1))) (aCons (eK (.int 0)) aNil))) aNil _ h = .ok [.tup [.int (-1), .int 0]] h), hF]
    rfl
  have mi : iSeqC (eProp 1 m_Stand_free (eVar 0)) (best7 (standT size rows mine its) m F (-1, 0) none none none) h = .ok (fun h => seqS h (lineT (freeL size mine its))) h := by
    unfold iSeqC
    rw [pFree (by have := R.s1; omega) (rfl : eVar 0 (best7 (standT size rows mine its) m F (-1, 0) none none none) h = .ok (standT size rows mine its) h)]
    rfl
  obtain ⟨τ', h', z, ⟨a, c, d, rfl⟩, rfl⟩ := sFor_inv (mi := iSeqC (eProp 1 m_Stand_free (eVar 0))) (g := mgName 4) (body := mdB) (τ := best7 (standT size rows mine its) m F (-1, 0) none none none) (h := h) (h1 := h) (rd := fun h => seqS h (lineT (freeL size mine its))) (ts := (freeL size mine its).map fun c => T.int (c : Nat))
    (fun i τ h' => (∃ a c d, τ = best7 (standT size rows mine its) m F (pick (dng m rs F) ((freeL size mine its).take i)) a c d) ∧ h' = h) mi ⟨⟨none, none, none, rfl⟩, rfl⟩ (fun _ _ _ _ => rfl) (fun i hi τ h' J => by
      obtain ⟨⟨a, c, d, rfl⟩, rfl⟩ := J
      have hi2 : i < (freeL size mine its).length := by simpa using hi
      have ei : ((freeL size mine its).map fun c => T.int (c : Nat))[i] = .int ((freeL size mine its)[i] : Nat) := List.getElem_map ..
      rw [ei, pick_take (dng m rs F) hi2]
      obtain ⟨x, hx⟩ : ∃ x, x = (freeL size mine its)[i] := ⟨_, rfl⟩
      rw [← hx]
      obtain ⟨b, hb⟩ : ∃ b, b = pick (dng m rs F) ((freeL size mine its).take i) := ⟨_, rfl⟩
      rw [← hb]
      obtain ⟨τ1, hτ⟩ : ∃ τ1, τ1 = best7 (standT size rows mine its) m F b (some (.int (x : Nat))) c d := ⟨_, rfl⟩
      refine ⟨τ1, h', best7 (standT size rows mine its) m F (pickS (dng m rs F) b x) (some (.int (x : Nat))) (some (.int ((dng m rs F x : Nat) : Int))) d, h', by rw [hτ]; rfl, .inl ?_, ⟨_, _, _, rfl⟩, rfl⟩
      have v0 : eVar 0 τ1 h' = .ok (standT size rows mine its) h' := by rw [hτ]; rfl
      have v1 : eVar 1 τ1 h' = .ok (.int (m : Nat)) h' := by rw [hτ]; rfl
      have v2 : eVar 2 τ1 h' = .ok (.int (F : Nat)) h' := by rw [hτ]; rfl
      have W := with_ok (i := 4) (j := 6) (c := x) (τ := τ1) (h := h') (f := eVar 0) R v0 (fun t => by rw [hτ]; rfl) (fun t => by rw [hτ]; rfl) (fun t => by rw [hτ]; rfl)
      have wl : (withL (restsL rows mine its) x).length ≤ 1000 := by
        have h1 : (withL (restsL rows mine its) x).length ≤ (restsL rows mine its).length := List.length_filter_le _ _
        have := rests_len (mine := mine) (its := its) R
        omega
      have A := (call_ok (b := m_weight_of) (cons_ok W (cons_ok v1 (cons_ok v2 (rfl : aNil τ1 h' = .ok [] h'))))).trans (weight_of_ok (t := .lst ((withL (restsL rows mine its) x).map lineT)) (rs := withL (restsL rows mine its) x) rfl m9 (by omega) wl (fun r hr => by rw [hF]; exact rest_le R (List.mem_filter.mp hr).1))
      have B := (op_ok (b := TL.bIx) A (rfl : eK (.int 0) τ1 h' = .ok (.int 0) h')).trans (rfl : TL.bIx (.tup [.int ((wsum m F (withL (restsL rows mine its) x) : Nat) : Int), .int (((m + 1) ^ F : Nat) : Int)]) (.int 0) h' = .ok (.int ((dng m (restsL rows mine its) F x : Nat) : Int)) h')
      rw [← hrs] at B
      have S1 := set_ok (i := 5) B
      refine (seq_nx S1).trans ?_
      obtain ⟨τ2, hτ2⟩ : ∃ τ2, τ2 = best7 (standT size rows mine its) m F b (some (.int (x : Nat))) (some (.int ((dng m rs F x : Nat) : Int))) d := ⟨_, rfl⟩
      have e2 : τ1.set 5 (some (T.int ((dng m rs F x : Nat) : Int))) = τ2 := by rw [hτ, hτ2]; rfl
      rw [hrs] at e2 ⊢
      rw [e2]
      rw [← hrs] at e2 ⊢
      have w5 : eVar 5 τ2 h' = .ok (.int ((dng m rs F x : Nat) : Int)) h' := by rw [hτ2]; rfl
      have w3 : eOp TL.bIx (eVar 3) (eK (.int 0)) τ2 h' = .ok (.int b.1) h' := by rw [hτ2]; rfl
      have C := test_ok ((op_ok (b := TL.bGt) w5 w3).trans (hGt _ _ h'))
      have D : eIf (bTest (eOp TL.bGt (eVar 5) (eOp TL.bIx (eVar 3) (eK (.int 0))))) (eTup (aCons (eVar 5) (aCons (eVar 4) aNil))) (eVar 3) τ2 h' = .ok (.tup [.int (pickS (dng m rs F) b x).1, .int ((pickS (dng m rs F) b x).2 : Nat)]) h' := by
        unfold pickS
        by_cases q : b.1 < ((dng m rs F x : Nat) : Int)
        · rw [decide_eq_true q] at C
          rw [if_pos q]
          refine (hIfT C).trans ?_
          rw [hτ2]
          rfl
        · rw [decide_eq_false q] at C
          rw [if_neg q]
          refine (hIfF C).trans ?_
          rw [hτ2]
          rfl
      refine (set_ok (i := 3) D).trans ?_
      rw [hτ2]
      rfl)
  rw [List.length_map, List.take_length] at z
  show defM 7 2 s_most_dangerous _ _ = _
  rw [md_eq]
  refine defM_rt rfl ((seq_nx s1).trans ((seq_nx z).trans (ret_ok ?_)))
  rw [← hF, ← hrs]
  rfl
end
end BD

set_option Elab.async false
set_option linter.all false
set_option maxRecDepth 100000
set_option maxHeartbeats 4000000
namespace BD
open PySem L2 TL K13
/-- the cells that the second takes -/
def ansL (m : Nat) : Nat → List (List Nat) → List Nat → List Nat
  | 0, _, _ => []
  | n + 1, rs, left => if left = [] then [] else
    (pick (dng m rs left.length) left).2 :: ansL m n (rs.filter fun r => !decide ((pick (dng m rs left.length) left).2 ∈ r)) (left.filter fun x => !decide (x = (pick (dng m rs left.length) left).2))
theorem ne_tup (l : List Nat) (h : VH) : TL.bNe (lineT l) (.tup []) h = .ok (.bl (!l.isEmpty)) h := by
  have e1 := line_dat l h 9
  have e2 : T.dat h 10 (.tup []) = some (.tuple []) := rfl
  unfold TL.bNe bEqG
  rw [e1, e2]
  cases l <;> simp [PyData.eqv, PyData.eqvAll]
theorem ix_last (l : List Nat) (c : Nat) (h : VH) : TL.bIx (lineT (l ++ [c])) (.int (-1)) h = .ok (.int (c : Nat)) h := by
  have e : atI ((l ++ [c]).map fun c => T.int (c : Nat)) (-1) = some (.int (c : Nat)) := by
    have e2 : ((l ++ [c]).map fun c => T.int (c : Nat)).length = l.length + 1 := by rw [List.length_map, List.length_append]; rfl
    unfold atI ixN
    rw [if_neg (by omega), e2]
    split
    · rename_i q
      have e3 : ((-1 : Int) + ((l.length + 1 : Nat) : Int)).toNat = l.length := by omega
      first
      | (rw [e3]; simp)
      | (simp; omega)
    · omega
  unfold lineT
  simp only [TL.bIx, e]
section
variable {size : Nat} {rows : List (List Nat)} {mine its : List Nat}
def waC : MB := (TL.bAnd (bTest (eOp TL.bLt (eCall fLen (aCons (eVar 2) aNil)) (eVar 1))) (bTest (eOp TL.bNe (eProp 1 m_Stand_free (eVar 0)) (eTup aNil))))
def waB : MS := (sSeq (sSet 2 (eTup (aStar (eVar 2) (aCons (eCall m_most_dangerous (aCons (eVar 0) (aCons (eVar 1) aNil))) aNil))))
  (sSet 0 (eCall m_behind (aCons (eVar 0) (aCons (eK (.str "second")) (aCons (eOp TL.bIx (eVar 2) (eNeg (eK (.int 1)))) aNil))))))
theorem wa_eq : s_weight_answer = sSeq (sExpr (eCall m_check_stand (aCons (eVar 0) aNil))) (sSeq (sExpr (eCall m_check_many (aCons (eVar 1) aNil))) (sSeq (sSet 2 (eTup aNil)) (sSeq (whileL waC waB 1000) (sRet (eVar 2))))) := rfl
theorem wa_loop (R : Rows size rows) (M : Hand size mine []) {m : Nat} (m9 : m ≤ 9) {h : VH} (hl : h.all (VO.lowR h.length) = true) : ∀ (n : Nat) (its fs : List Nat) (fuel : Nat), n < fuel → fs.length + n = m → Hand size its mine →
    ∃ s, whileL waC waB fuel [some (standT size rows mine its), some (.int (m : Nat)), some (lineT fs)] h = .nx [some s, some (.int (m : Nat)), some (lineT (fs ++ ansL m n (restsL rows mine its) (freeL size mine its)))] h := by
  intro n
  induction n with
  | zero =>
    intro its fs fuel lt e I
    obtain ⟨f, rfl⟩ : ∃ f, fuel = f + 1 := ⟨fuel - 1, by omega⟩
    obtain ⟨τ, hτ⟩ : ∃ τ, τ = [some (standT size rows mine its), some (T.int (m : Nat)), some (lineT fs)] := ⟨_, rfl⟩
    have v1 : eVar 1 τ h = .ok (.int (m : Nat)) h := by rw [hτ]; rfl
    have v2 : eVar 2 τ h = .ok (.tup (fs.map fun c => .int (c : Nat))) h := by rw [hτ]; rfl
    have A := test_ok ((op_ok (b := TL.bLt) (hLenT v2) v1).trans (hLt _ _ h))
    rw [List.length_map, decide_eq_false (by omega)] at A
    have C : waC τ h = .ok false h := (hAnd (q := false) A fun z => by cases z).trans (by rfl)
    refine ⟨standT size rows mine its, ?_⟩
    rw [← hτ]
    unfold whileL
    rw [C]
    simp only [ansL, List.append_nil]
    rw [hτ]
  | succ n ih =>
    intro its fs fuel lt e I
    obtain ⟨f, rfl⟩ : ∃ f, fuel = f + 1 := ⟨fuel - 1, by omega⟩
    obtain ⟨τ, hτ⟩ : ∃ τ, τ = [some (standT size rows mine its), some (T.int (m : Nat)), some (lineT fs)] := ⟨_, rfl⟩
    have v0 : eVar 0 τ h = .ok (standT size rows mine its) h := by rw [hτ]; rfl
    have v1 : eVar 1 τ h = .ok (.int (m : Nat)) h := by rw [hτ]; rfl
    have v2 : eVar 2 τ h = .ok (.tup (fs.map fun c => .int (c : Nat))) h := by rw [hτ]; rfl
    have A := test_ok ((op_ok (b := TL.bLt) (hLenT v2) v1).trans (hLt _ _ h))
    rw [List.length_map, decide_eq_true (by omega)] at A
    have B := test_ok ((op_ok (b := TL.bNe) (pFree (by have := R.s1; omega) v0) (rfl : eTup aNil τ h = .ok (.tup []) h)).trans (ne_tup _ h))
    by_cases q : freeL size mine its = []
    · rw [show (freeL size mine its).isEmpty = true by rw [q]; rfl] at B
      have C : waC τ h = .ok false h := hAnd A fun _ => B
      refine ⟨standT size rows mine its, ?_⟩
      rw [← hτ]
      unfold whileL
      rw [C]
      simp only [ansL, if_pos q, List.append_nil]
      rw [hτ]
    · rw [show (freeL size mine its).isEmpty = false by cases hh : freeL size mine its with | nil => exact (q hh).elim | cons _ _ => rfl] at B
      have C : waC τ h = .ok true h := hAnd A fun _ => B
      obtain ⟨c, hc⟩ : ∃ c, c = (pick (dng m (restsL rows mine its) (freeL size mine its).length) (freeL size mine its)).2 := ⟨_, rfl⟩
      have cf : c ∈ freeL size mine its := by rw [hc]; exact (pick_in _ _ q).2
      have D := (call_ok (b := m_most_dangerous) (cons_ok v0 (cons_ok v1 (rfl : aNil τ h = .ok [] h)))).trans (most_ok (mine := mine) (its := its) R m9 h)
      rw [← hc] at D
      have E : eTup (aStar (eVar 2) (aCons (eCall m_most_dangerous (aCons (eVar 0) (aCons (eVar 1) aNil))) aNil)) τ h = .ok (lineT (fs ++ [c])) h := by
        unfold eTup
        rw [star_ok v2 rfl (cons_ok D rfl)]
        simp only [lineT, List.map_append, List.map_cons, List.map_nil]
        rw [if_pos (by simp; omega)]
      have S1 := set_ok (i := 2) E
      have S2 : sSet 0 (eCall m_behind (aCons (eVar 0) (aCons (eK (.str "second")) (aCons (eOp TL.bIx (eVar 2) (eNeg (eK (.int 1)))) aNil)))) [some (standT size rows mine its), some (T.int (m : Nat)), some (lineT (fs ++ [c]))] h = .nx [some (standT size rows mine (moreL its c)), some (T.int (m : Nat)), some (lineT (fs ++ [c]))] h := by
        have X := (op_ok (b := TL.bIx) (rfl : eVar 2 [some (standT size rows mine its), some (T.int (m : Nat)), some (lineT (fs ++ [c]))] h = .ok (lineT (fs ++ [c])) h) (rfl : eNeg (eK (.int 1)) _ h = .ok (.int (-1)) h)).trans (ix_last fs c h)
        exact set_ok (i := 0) ((call_ok (b := m_behind) (cons_ok (rfl : eVar 0 _ h = .ok (standT size rows mine its) h) (cons_ok (rfl : eK (.str "second") _ h = .ok (.str "second") h) (cons_ok X rfl)))).trans (behind2_ok R.s1 M I cf hl))
      have Bo : waB τ h = .nx [some (standT size rows mine (moreL its c)), some (T.int (m : Nat)), some (lineT (fs ++ [c]))] h := by
        refine (seq_nx S1).trans ?_
        rw [hτ]
        exact S2
      obtain ⟨s, z⟩ := ih (moreL its c) (fs ++ [c]) f (by omega) (by rw [List.length_append]; simp; omega) (more_hand I cf)
      refine ⟨s, ?_⟩
      rw [← hτ]
      unfold whileL
      rw [C]
      simp only [Bo]
      rw [z, more_free, more_rests (free_mem.mp cf).2.1]
      simp only [ansL, if_neg q, ← hc, List.append_assoc, List.singleton_append]
theorem answer_ok (R : Rows size rows) (M : Hand size mine []) (I : Hand size its mine) {m : Nat} (m1 : 1 ≤ m) (m9 : m ≤ 9) {h : VH} (hl : h.all (VO.lowR h.length) = true) :
    m_weight_answer [standT size rows mine its, .int (m : Nat)] h = .ok (lineT (ansL m m (restsL rows mine its) (freeL size mine its))) h := by
  obtain ⟨s, z⟩ := wa_loop R M m9 hl m its [] 1000 (by omega) (by simp) I
  have v0 : eVar 0 (startT 3 [standT size rows mine its, .int (m : Nat)]) h = .ok (standT size rows mine its) h := rfl
  have v1 : eVar 1 (startT 3 [standT size rows mine its, .int (m : Nat)]) h = .ok (.int (m : Nat)) h := rfl
  have nil : aNil (startT 3 [standT size rows mine its, .int (m : Nat)]) h = .ok [] h := rfl
  show defM 3 2 s_weight_answer _ _ = _
  rw [wa_eq]
  refine defM_rt rfl ?_
  exact (seq_nx (expr_ok ((call_ok (b := m_check_stand) (cons_ok v0 nil)).trans (chk_stand h)))).trans ((seq_nx (expr_ok ((call_ok (b := m_check_many) (cons_ok v1 nil)).trans (chk_many m1 m9 h)))).trans ((seq_nx (rfl : sSet 2 (eTup aNil) (startT 3 [standT size rows mine its, .int (m : Nat)]) h = .nx [some (standT size rows mine its), some (.int (m : Nat)), some (lineT [])] h)).trans ((seq_nx z).trans (ret_ok rfl))))
end
end BD

set_option Elab.async false
set_option linter.all false
set_option maxRecDepth 100000
set_option maxHeartbeats 4000000
namespace BD
open PySem L2 TL K13
theorem Frac.of {X Y : Nat} (hY : 0 < Y) : Frac X Y (X / Nat.gcd X Y) (Y / Nat.gcd X Y) := by
  have gp : 0 < Nat.gcd X Y := Nat.gcd_pos_of_pos_right _ hY
  refine ⟨?_, Nat.coprime_div_gcd_div_gcd gp, Nat.div_pos (Nat.gcd_le_right _ hY) gp⟩
  have e1 := Nat.div_mul_cancel (Nat.gcd_dvd_left X Y)
  have e2 := Nat.div_mul_cancel (Nat.gcd_dvd_right X Y)
  generalize X / Nat.gcd X Y = x at *
  generalize Y / Nat.gcd X Y = y at *
  generalize Nat.gcd X Y = g at *
  rw [← e1, ← e2, Nat.mul_assoc, Nat.mul_comm g y]
theorem Frac.gt {X Y u l X' u' l' : Nat} (f : Frac X Y u l) (f' : Frac X' Y u' l') (hY : 0 < Y) : u * l' < u' * l ↔ X < X' := by
  have e1 : u * l' * Y = X * (l * l') := by rw [Nat.mul_right_comm, f.eq, Nat.mul_assoc]
  have e2 : u' * l * Y = X' * (l * l') := by rw [Nat.mul_right_comm, f'.eq, Nat.mul_assoc, Nat.mul_comm l' l]
  have p : 0 < l * l' := Nat.mul_pos f.pos f'.pos
  rw [← Nat.mul_lt_mul_right (a := Y) hY, e1, e2, Nat.mul_lt_mul_right p]
theorem told_ok {rs : List (List Nat)} {m F : Nat} (hm : m ≤ 9) (hF : F ≤ 30) (le : ∀ r ∈ rs, r.length ≤ F) (sh : ∀ r ∈ rs, r.length ≤ 12) (h : VH) :
    ∃ u l, m_law_weight [.lst (rs.map lineT), .int (m : Nat)] h = .ok (.tup [.int (u : Nat), .int (l : Nat)]) h ∧ Frac (wsum m F rs) ((m + 1) ^ F) u l ∧ l ≤ 1000000000000 := by
  have e1 := law_weight_ok (t := .lst (rs.map lineT)) (h := h) (rs := rs) (m := m) (F := F) (fun _ => rfl) hm hF le (fun r hr => by have := sh r hr; omega)
  have e2 := law_weight_ok (t := .lst (rs.map lineT)) (h := h) (rs := rs) (m := m) (F := 12) (fun _ => rfl) hm (by omega) sh (fun r hr => by have := sh r hr; omega)
  refine ⟨_, _, e1, Frac.of (pow120 hm hF).1, ?_⟩
  have z : wT m F rs = wT m 12 rs := by
    have := e1.symm.trans e2
    injection this
  unfold wT at z
  injection z with z
  injection z with _ z
  injection z with z _
  injection z with z
  have z2 : (m + 1) ^ F / Nat.gcd (wsum m F rs) ((m + 1) ^ F) = (m + 1) ^ 12 / Nat.gcd (wsum m 12 rs) ((m + 1) ^ 12) := by omega
  rw [z2]
  have h1 : (m + 1) ^ 12 / Nat.gcd (wsum m 12 rs) ((m + 1) ^ 12) ≤ (m + 1) ^ 12 := Nat.div_le_self _ _
  have h2 : (m + 1) ^ 12 ≤ 10 ^ 12 := Nat.pow_le_pow_left (by omega) 12
  omega
theorem filt_ok {α : Type} (enc : α → T) (l : List α) (p : α → Bool) {f : ME} {c : MB} {j : Nat} {τ : TS_} {h : VH} (hf : iSeqC f τ h = .ok (fun h => seqS h (.lst (l.map enc))) h) (hl : l.length ≤ 16777216) (hc : ∀ a ∈ l, c ((wipeT τ [j]).set j (some (enc a))) h = .ok (p a) h) (hj : ∀ t, eVar j ((wipeT τ [j]).set j (some t)) h = .ok t h) :
    eL (mLc (iSeqC f) [j] (mgName j) c (eVar j)) τ h = .ok (.lst ((l.filter p).map enc)) h := by
  have z := mLc_pure (mi := iSeqC f) (ws := [j]) (g := mgName j) (c := c) (e := eVar j) (τ := τ) (h := h) (ts := l.map enc) hf rfl (by rw [List.length_map]; exact hl)
    (fun t => match c ((wipeT τ [j]).set j (some t)) h with | .ok b _ => b | _ => false) (fun t => t) (fun t ht => by
      obtain ⟨a, ha, rfl⟩ := List.mem_map.mp ht
      refine ⟨_, rfl, ?_, fun _ => hj _⟩
      have e := hc a ha
      show _ = Res.ok (match c ((wipeT τ [j]).set j (some (enc a))) h with | .ok b _ => b | _ => false) h
      rw [e])
  have e : ((l.map enc).filter fun t => match c ((wipeT τ [j]).set j (some t)) h with | .ok b _ => b | _ => false).map (fun t => t) = (l.filter p).map enc := by
    rw [List.map_id', List.filter_map]
    refine congrArg (List.map _) (List.filter_congr fun a ha => ?_)
    show (match c ((wipeT τ [j]).set j (some (enc a))) h with | .ok b _ => b | _ => false) = _
    rw [hc a ha]
  rw [e] at z
  exact eL_ok z
abbrev nI (c : Nat) : T := .int (c : Nat)
abbrev laF (rs : List (List Nat)) (left : List Nat) (m : Nat) (fs : List Nat) (turn best spot x told y : Option T) : TS_ := [some (.lst (rs.map lineT)), some (.lst (left.map nI)), some (.int (m : Nat)), some (lineT fs), turn, best, spot, x, told, y]
def laW : ME := (eL (mLc (iSeqC (eVar 0)) [9] (mgName 9) (bTest (eOp TL.bIn (eVar 7) (eVar 9))) (eVar 9)))
def laI : MS := (sSeq (sSet 8 (eCall m_law_weight (aCons laW (aCons (eVar 2) aNil))))
  (sIf (bTest (eOp TL.bGt (eOp TL.bMul (eOp TL.bIx (eVar 8) (eK (.int 0))) (eOp TL.bIx (eVar 5) (eK (.int 1)))) (eOp TL.bMul (eOp TL.bIx (eVar 5) (eK (.int 0))) (eOp TL.bIx (eVar 8) (eK (.int 1)))))) (sAsg (eTup (aCons (eVar 8) (aCons (eVar 7) aNil))) (mgTup 2 (mgsCons (mgName 5) (mgsCons (mgName 6) mgsNil)))) sNil))
def la0 : MS := (sAsg (eTup (aCons (eTup (aCons (eNeg (eK (.int 1))) (aCons (eK (.int 1)) aNil))) (aCons (eNeg (eK (.int 1))) aNil))) (mgTup 2 (mgsCons (mgName 5) (mgsCons (mgName 6) mgsNil))))
def laT1 : MS := (sSet 3 (eOp TL.bAdd (eVar 3) (eTup (aCons (eVar 6) aNil))))
def laT2 : MS := (sSet 1 (eL (mLc (iSeqC (eVar 1)) [7] (mgName 7) (bTest (eOp TL.bNe (eVar 7) (eVar 6))) (eVar 7))))
def laT3 : MS := (sSet 0 (eL (mLc (iSeqC (eVar 0)) [9] (mgName 9) (bTest (eOp TL.bNin (eVar 6) (eVar 9))) (eVar 9))))
def laB : MS := sSeq la0 (sSeq (sFor (iSeqC (eVar 1)) (mgName 7) laI) (sSeq laT1 (sSeq laT2 laT3)))
def laM : MI := (iRange1 (aCons (eCall fMin2 (aCons (eVar 2) (aCons (eCall fLen (aCons (eVar 1) aNil)) aNil))) aNil))
theorem la_eq : s_law_answers = sSeq (sSet 3 (eTup aNil)) (sSeq (sFor laM (mgName 4) laB) (sRet (eVar 3))) := rfl
/-- what the law holds of the best one so far -/
def BestIs (Y : Nat) (b : Int × Nat) (best spot : T) : Prop :=
  (b = (-1, 0) ∧ best = .tup [.int (-1), .int 1] ∧ spot = .int (-1)) ∨ ∃ X u l : Nat, b.1 = (X : Int) ∧ best = .tup [.int (u : Nat), .int (l : Nat)] ∧ spot = .int (b.2 : Nat) ∧ Frac X Y u l ∧ l ≤ 1000000000000
/-- what the law works on -/
structure Lots (rs : List (List Nat)) (left : List Nat) : Prop where
  asc : left.Pairwise (· < ·)
  few : left.length ≤ 30
  row : ∀ r ∈ rs, r.Pairwise (· < ·) ∧ ∀ c ∈ r, c ∈ left
  sh : ∀ r ∈ rs, r.length ≤ 12
  cnt : rs.length ≤ 1000
theorem Lots.le {rs : List (List Nat)} {left : List Nat} (L : Lots rs left) {r : List Nat} (hr : r ∈ rs) : r.length ≤ left.length := asc_sub L.asc (L.row r hr).1 (L.row r hr).2
section
variable {rs : List (List Nat)} {left : List Nat} {m : Nat}
theorem laI_ok (L : Lots rs left) (hm : m ≤ 9) (fs : List Nat) (turn : Option T) {b : Int × Nat} {best spot : T} (B : BestIs ((m + 1) ^ left.length) b best spot) {x : Nat} (told y : Option T) (h : VH) :
    ∃ best' spot' told', laI (laF rs left m fs turn (some best) (some spot) (some (.int (x : Nat))) told y) h = .nx (laF rs left m fs turn (some best') (some spot') (some (.int (x : Nat))) told' y) h ∧ BestIs ((m + 1) ^ left.length) (pickS (dng m rs left.length) b x) best' spot' := by
  obtain ⟨p0, p1⟩ := pow120 (m := m) hm L.few
  obtain ⟨τ, hτ⟩ : ∃ τ, τ = laF rs left m fs turn (some best) (some spot) (some (.int (x : Nat))) told y := ⟨_, rfl⟩
  have v2 : eVar 2 τ h = .ok (.int (m : Nat)) h := by rw [hτ]; rfl
  have W : laW τ h = .ok (.lst ((withL rs x).map lineT)) h := filt_ok lineT rs (fun r => decide (x ∈ r)) (by rw [hτ]; rfl) (by have := L.cnt; omega) (fun r _ => by rw [hτ]; exact test_ok ((op_ok (b := TL.bIn) (rfl : eVar 7 _ h = .ok (.int (x : Nat)) h) (rfl : eVar 9 _ h = .ok (lineT r) h)).trans (in_line x r h))) (fun t => by rw [hτ]; rfl)
  obtain ⟨u', l', e1, f', lb'⟩ := told_ok (rs := withL rs x) (F := left.length) hm L.few (fun r hr => L.le (List.mem_filter.mp hr).1) (fun r hr => L.sh r (List.mem_filter.mp hr).1) h
  have S1 := set_ok (i := 8) ((call_ok (b := m_law_weight) (cons_ok W (cons_ok v2 (rfl : aNil τ h = .ok [] h)))).trans e1)
  obtain ⟨τ2, hτ2⟩ : ∃ τ2, τ2 = laF rs left m fs turn (some best) (some spot) (some (.int (x : Nat))) (some (.tup [.int (u' : Nat), .int (l' : Nat)])) y := ⟨_, rfl⟩
  have e2 : τ.set 8 (some (.tup [.int (u' : Nat), .int (l' : Nat)])) = τ2 := by rw [hτ, hτ2]; rfl
  rw [e2] at S1
  have w8 : ∀ i : Int, eOp TL.bIx (eVar 8) (eK (.int i)) τ2 h = TL.bIx (.tup [.int (u' : Nat), .int (l' : Nat)]) (.int i) h := fun i => op_ok (b := TL.bIx) (by rw [hτ2]; rfl) rfl
  have w5 : ∀ i : Int, eOp TL.bIx (eVar 5) (eK (.int i)) τ2 h = TL.bIx best (.int i) h := fun i => op_ok (b := TL.bIx) (by rw [hτ2]; rfl) rfl
  have w80 : eOp TL.bIx (eVar 8) (eK (.int 0)) τ2 h = .ok (.int (u' : Nat)) h := (w8 0).trans rfl
  have w81 : eOp TL.bIx (eVar 8) (eK (.int 1)) τ2 h = .ok (.int (l' : Nat)) h := (w8 1).trans rfl
  have yes : BestIs ((m + 1) ^ left.length) ((dng m rs left.length x : Nat), x) (.tup [.int (u' : Nat), .int (l' : Nat)]) (.int (x : Nat)) := .inr ⟨_, u', l', rfl, rfl, rfl, f', lb'⟩
  have take_ : (sAsg (eTup (aCons (eVar 8) (aCons (eVar 7) aNil))) (mgTup 2 (mgsCons (mgName 5) (mgsCons (mgName 6) mgsNil)))) τ2 h = .nx (laF rs left m fs turn (some (.tup [.int (u' : Nat), .int (l' : Nat)])) (some (.int (x : Nat))) (some (.int (x : Nat))) (some (.tup [.int (u' : Nat), .int (l' : Nat)])) y) h := by rw [hτ2]; rfl
  rw [← hτ]
  unfold laI
  rcases B with ⟨rfl, rfl, rfl⟩ | ⟨X, u, l, eX, rfl, rfl, f, lb⟩
  · have A := (op_ok (b := TL.bMul) w80 ((w5 1).trans (rfl : _ = Res.ok (T.int 1) h))).trans (hMul (by omega) h)
    have B := (op_ok (b := TL.bMul) ((w5 0).trans (rfl : _ = Res.ok (T.int (-1)) h)) w81).trans (hMul (by omega) h)
    have C := test_ok ((op_ok (b := TL.bGt) A B).trans (hGt _ _ h))
    have lp := f'.pos
    rw [decide_eq_true (by omega)] at C
    refine ⟨_, _, _, (seq_nx S1).trans ((if_t C).trans take_), ?_⟩
    unfold pickS
    rw [if_pos (by simp; omega)]
    exact yes
  · have A := (op_ok (b := TL.bMul) w80 ((w5 1).trans (rfl : _ = Res.ok (T.int (l : Nat)) h))).trans (hMul (by omega) h)
    have B := (op_ok (b := TL.bMul) ((w5 0).trans (rfl : _ = Res.ok (T.int (u : Nat)) h)) w81).trans (hMul (by omega) h)
    have C := test_ok ((op_ok (b := TL.bGt) A B).trans (hGt _ _ h))
    have g := f.gt f' p0
    have e3 : (u : Int) * (l' : Nat) < (u' : Int) * (l : Nat) ↔ u * l' < u' * l := by rw [← Int.natCast_mul, ← Int.natCast_mul]; omega
    by_cases q : X < wsum m left.length (withL rs x)
    · rw [decide_eq_true (e3.mpr (g.mpr q))] at C
      refine ⟨_, _, _, (seq_nx S1).trans ((if_t C).trans take_), ?_⟩
      unfold pickS
      rw [if_pos (by rw [eX]; show (X : Int) < ((wsum m left.length (withL rs x) : Nat) : Int); omega)]
      exact yes
    · rw [decide_eq_false (fun z => q (g.mp (e3.mp z)))] at C
      refine ⟨_, _, _, (seq_nx S1).trans ((if_f C).trans (by rw [hτ2]; rfl)), ?_⟩
      unfold pickS
      rw [if_neg (by rw [eX]; show ¬ (X : Int) < ((wsum m left.length (withL rs x) : Nat) : Int); omega)]
      exact .inr ⟨X, u, l, eX, rfl, rfl, f, lb⟩
theorem laB_ok (L : Lots rs left) (ne : left ≠ []) (hm : m ≤ 9) {fs : List Nat} (hfs : fs.length ≤ 1000) (turn a5 a6 a7 a8 a9 : Option T) (h : VH) :
    ∃ b5 b6 b7 b8 b9, laB (laF rs left m fs turn a5 a6 a7 a8 a9) h = .nx (laF (rs.filter fun r => !decide ((pick (dng m rs left.length) left).2 ∈ r)) (left.filter fun x => !decide (x = (pick (dng m rs left.length) left).2)) m (fs ++ [(pick (dng m rs left.length) left).2]) turn b5 b6 b7 b8 b9) h := by
  obtain ⟨τ', h', z, ⟨best, spot, a7', a8', rfl, B⟩, rfl⟩ := sFor_inv (mi := iSeqC (eVar 1)) (g := mgName 7) (body := laI) (τ := laF rs left m fs turn (some (.tup [.int (-1), .int 1])) (some (.int (-1))) a7 a8 a9) (h := h) (h1 := h) (rd := fun h => seqS h (.lst (left.map nI))) (ts := left.map nI)
    (fun i τ h' => (∃ best spot a7 a8, τ = laF rs left m fs turn (some best) (some spot) a7 a8 a9 ∧ BestIs ((m + 1) ^ left.length) (pick (dng m rs left.length) (left.take i)) best spot) ∧ h' = h) rfl ⟨⟨_, _, _, _, rfl, .inl ⟨rfl, rfl, rfl⟩⟩, rfl⟩ (fun _ _ _ _ => rfl) (fun i hi τ h' J => by
      obtain ⟨⟨best, spot, a7, a8, rfl, B⟩, rfl⟩ := J
      have hi2 : i < left.length := by simpa using hi
      have ei : (left.map nI)[i] = .int (left[i] : Nat) := List.getElem_map ..
      rw [ei, pick_take _ hi2]
      obtain ⟨b', s', t', e, B'⟩ := laI_ok L hm fs turn B (x := left[i]) a8 a9 h'
      exact ⟨_, h', _, h', rfl, .inl e, ⟨_, _, _, _, rfl, B'⟩, rfl⟩)
  rw [List.length_map, List.take_length] at B
  obtain ⟨p0, pin⟩ := pick_in (dng m rs left.length) left ne
  obtain ⟨s, hs⟩ : ∃ s, s = (pick (dng m rs left.length) left).2 := ⟨_, rfl⟩
  obtain rfl : spot = .int (s : Nat) := by
    rcases B with ⟨e, _, _⟩ | ⟨X, u, l, _, _, e, _⟩
    · rw [e] at p0
      simp at p0
    · rw [e, hs]
  rw [← hs]
  have S0 : la0 (laF rs left m fs turn a5 a6 a7 a8 a9) h' = .nx (laF rs left m fs turn (some (.tup [.int (-1), .int 1])) (some (.int (-1))) a7 a8 a9) h' := rfl
  have T1 : laT1 (laF rs left m fs turn (some best) (some (.int (s : Nat))) a7' a8' a9) h' = .nx (laF rs left m (fs ++ [s]) turn (some best) (some (.int (s : Nat))) a7' a8' a9) h' := by
    refine (set_ok (i := 3) (t := lineT (fs ++ [s])) (h1 := h') ((op_ok (b := TL.bAdd) (rfl : eVar 3 _ h' = .ok (.tup (fs.map fun c => .int (c : Nat))) h') (rfl : eTup (aCons (eVar 6) aNil) _ h' = .ok (.tup [.int (s : Nat)]) h')).trans ?_)).trans rfl
    have : (fs.map fun c => T.int (c : Nat)).length + [T.int (s : Nat)].length ≤ 16777216 := by rw [List.length_map]; simp; omega
    simp only [TL.bAdd]
    rw [if_pos this]
    simp [lineT]
  have T2 : laT2 (laF rs left m (fs ++ [s]) turn (some best) (some (.int (s : Nat))) a7' a8' a9) h' = .nx (laF rs (left.filter fun x => !decide (x = s)) m (fs ++ [s]) turn (some best) (some (.int (s : Nat))) a7' a8' a9) h' := by
    have q := filt_ok nI left (fun x => !decide (x = s)) (f := eVar 1) (c := bTest (eOp TL.bNe (eVar 7) (eVar 6))) (j := 7) (τ := laF rs left m (fs ++ [s]) turn (some best) (some (.int (s : Nat))) a7' a8' a9) (h := h') rfl (by have := L.few; omega) (fun x _ => by
      refine test_ok ((op_ok (b := TL.bNe) (rfl : eVar 7 _ h' = .ok (.int (x : Nat)) h') (rfl : eVar 6 _ h' = .ok (.int (s : Nat)) h')).trans ((hNe _ _ h').trans ?_))
      rw [show decide (((x : Nat) : Int) = (s : Nat)) = decide (x = s) from decide_eq_decide.mpr (by omega)]) (fun t => rfl)
    exact (set_ok (i := 1) q).trans rfl
  have T3 : laT3 (laF rs (left.filter fun x => !decide (x = s)) m (fs ++ [s]) turn (some best) (some (.int (s : Nat))) a7' a8' a9) h' = .nx (laF (rs.filter fun r => !decide (s ∈ r)) (left.filter fun x => !decide (x = s)) m (fs ++ [s]) turn (some best) (some (.int (s : Nat))) a7' a8' a9) h' := by
    have q := filt_ok lineT rs (fun r => !decide (s ∈ r)) (f := eVar 0) (c := bTest (eOp TL.bNin (eVar 6) (eVar 9))) (j := 9) (τ := laF rs (left.filter fun x => !decide (x = s)) m (fs ++ [s]) turn (some best) (some (.int (s : Nat))) a7' a8' a9) (h := h') rfl (by have := L.cnt; omega) (fun r _ => test_ok ((op_ok (b := TL.bNin) (rfl : eVar 6 _ h' = .ok (.int (s : Nat)) h') (rfl : eVar 9 _ h' = .ok (lineT r) h')).trans (nin_line s r h'))) (fun t => rfl)
    exact (set_ok (i := 0) q).trans rfl
  exact ⟨_, _, _, _, _, (seq_nx S0).trans ((seq_nx z).trans ((seq_nx T1).trans ((seq_nx T2).trans T3)))⟩
theorem Lots.less (L : Lots rs left) {s : Nat} (hs : s ∈ left) : Lots (rs.filter fun r => !decide (s ∈ r)) (left.filter fun x => !decide (x = s)) ∧ (left.filter fun x => !decide (x = s)).length + 1 = left.length := by
  refine ⟨⟨List.Pairwise.filter _ L.asc, Nat.le_trans (List.length_filter_le _ _) L.few, fun r hr => ?_, fun r hr => L.sh r (List.mem_filter.mp hr).1, Nat.le_trans (List.length_filter_le _ _) L.cnt⟩, ?_⟩
  · obtain ⟨h1, h2⟩ := List.mem_filter.mp hr
    refine ⟨(L.row r h1).1, fun c hc => List.mem_filter.mpr ⟨(L.row r h1).2 c hc, ?_⟩⟩
    simp only [Bool.not_eq_true', decide_eq_false_iff_not] at h2 ⊢
    exact fun z => h2 (z ▸ hc)
  · have key : ∀ l : List Nat, l.Pairwise (· < ·) → s ∈ l → (l.filter fun x => !decide (x = s)).length + 1 = l.length := by
      intro l
      induction l with
      | nil => intro _ h; cases h
      | cons a l ih =>
        intro p h
        rw [List.pairwise_cons] at p
        by_cases q : a = s
        · subst q
          rw [List.filter_cons, if_neg (by simp)]
          have : (l.filter fun x => !decide (x = a)) = l := List.filter_eq_self.mpr fun x hx => by
            have := p.1 x hx
            simp only [Bool.not_eq_true', decide_eq_false_iff_not]
            omega
          rw [this]
          rfl
        · rw [List.filter_cons, if_pos (by simp [q])]
          have := ih p.2 ((List.mem_cons.mp h).resolve_left fun z => q z.symm)
          simp only [List.length_cons]
          omega
    exact key left L.asc hs
theorem minI2 (p q : Int) (h : VH) : fMin2 [.int p, .int q] h = .ok (.int (if q < p then q else p)) h := rfl
theorem law_answers_ok (L : Lots rs left) (hm : m ≤ 9) (h : VH) : m_law_answers [.lst (rs.map lineT), .lst (left.map nI), .int (m : Nat)] h = .ok (lineT (ansL m m rs left)) h := by
  obtain ⟨N, hN⟩ : ∃ N : Nat, N = min m left.length := ⟨_, rfl⟩
  have mi : laM (laF rs left m [] none none none none none none) h = .ok (fun _ => some (rangeT 0 N)) h := by
    have A := hLenL (f := eVar 1) (τ := laF rs left m [] none none none none none none) (h := h) (ts := left.map nI) rfl
    rw [List.length_map] at A
    have B := (call_ok (b := fMin2) (cons_ok (rfl : eVar 2 (laF rs left m [] none none none none none none) h = .ok (.int (m : Nat)) h) (cons_ok A (rfl : aNil _ h = .ok [] h)))).trans (minI2 _ _ h)
    have e : (if ((left.length : Nat) : Int) < (m : Nat) then ((left.length : Nat) : Int) else (m : Nat)) = (N : Nat) := by split <;> omega
    rw [e] at B
    unfold laM iRange1
    rw [cons_ok B (rfl : aNil _ h = .ok [] h)]
    simp only
    rw [if_pos ⟨by omega, by omega⟩, Int.toNat_natCast]
  obtain ⟨τ', h', z, ⟨rs', left', fs, t, a5, a6, a7, a8, a9, rfl, L', e1, e2, e3⟩, rfl⟩ := sFor_inv (mi := laM) (g := mgName 4) (body := laB) (τ := laF rs left m [] none none none none none none) (h := h) (h1 := h) (rd := fun _ => some (rangeT 0 N)) (ts := rangeT 0 N)
    (fun i τ h' => (∃ rs' left' fs t a5 a6 a7 a8 a9, τ = laF rs' left' m fs t a5 a6 a7 a8 a9 ∧ Lots rs' left' ∧ fs.length = i ∧ left'.length + i = left.length ∧ fs ++ ansL m (m - i) rs' left' = ansL m m rs left) ∧ h' = h) mi ⟨⟨rs, left, [], _, _, _, _, _, _, rfl, L, rfl, rfl, rfl⟩, rfl⟩ (fun _ _ _ _ => rfl) (fun i hi τ h' J => by
      obtain ⟨⟨rs', left', fs, t, a5, a6, a7, a8, a9, rfl, L', e1, e2, e3⟩, rfl⟩ := J
      rw [range_len] at hi
      have ne : left' ≠ [] := by
        rintro rfl
        simp at e2
        omega
      obtain ⟨b5, b6, b7, b8, b9, e⟩ := laB_ok L' ne hm (fs := fs) (by have := L.few; omega) (some (rangeT 0 N)[i]) a5 a6 a7 a8 a9 h'
      obtain ⟨L2, c2⟩ := L'.less (pick_in (dng m rs' left'.length) left' ne).2
      refine ⟨_, h', _, h', rfl, .inl e, ⟨_, _, _, _, _, _, _, _, _, rfl, L2, by rw [List.length_append, e1]; rfl, by omega, ?_⟩, rfl⟩
      rw [← e3, show m - i = (m - (i + 1)) + 1 by omega]
      simp only [ansL, if_neg ne, List.append_assoc, List.singleton_append])
  rw [range_len] at e1 e2 e3
  have e4 : ansL m (m - N) rs' left' = [] := by
    by_cases q : m ≤ left.length
    · rw [show m - N = 0 by omega]; rfl
    · have : left' = [] := List.length_eq_zero_iff.mp (by omega)
      subst this
      cases m - N <;> rfl
  rw [e4, List.append_nil] at e3
  show defM 10 3 s_law_answers _ _ = _
  rw [la_eq]
  refine defM_rt rfl ((seq_nx (rfl : sSet 3 (eTup aNil) (startT 10 [.lst (rs.map lineT), .lst (left.map nI), .int (m : Nat)]) h' = .nx (laF rs left m [] none none none none none none) h')).trans ((seq_nx z).trans (ret_ok ?_)))
  rw [← e3]
  rfl
end
end BD

set_option Elab.async false
set_option linter.all false
set_option maxRecDepth 100000
set_option maxHeartbeats 4000000
namespace BD
open PySem L2 TL K13
/-! ### the draws -/
theorem cm_l {i j : Int} (h : -1000000000000 < i) (h2 : i < 1000000000000) : cMul i j = true := by
  unfold cMul
  rw [Bool.or_eq_true, Bool.and_eq_true, Bool.and_eq_true]
  exact .inl ⟨decide_eq_true (by omega), decide_eq_true (by omega)⟩
theorem cm_r {i j : Int} (h : -1000000000000 < j) (h2 : j < 1000000000000) : cMul i j = true := by
  unfold cMul
  rw [Bool.or_eq_true, Bool.and_eq_true, Bool.and_eq_true]
  exact .inr ⟨decide_eq_true (by omega), decide_eq_true (by omega)⟩
def pur (a b : Int) : VO := .lst [.int a, .int b]
def IsP (o : VO) : Prop := ∃ a b, o = pur a b ∧ 0 ≤ b ∧ b < 2147483647
/-- nothing in the heap tells of another thing of the heap -/
def Flat (h : VH) : Prop := ∀ o ∈ h, ∀ m, VO.lowR m o = true
/-- the draws stand at n -/
structure Iv (n : Nat) (h : VH) : Prop where
  bg : ∃ o, h[n]? = some o ∧ IsP o
  fl : Flat h
theorem Iv.lt {n : Nat} {h : VH} (I : Iv n h) : n < h.length := let ⟨_, e, _⟩ := I.bg; (List.getElem?_eq_some_iff.mp e).1
theorem Flat.low {h : VH} (f : Flat h) (m : Nat) : h.all (VO.lowR m) = true := List.all_eq_true.mpr fun o ho => f o ho m
theorem Flat.set {h : VH} (f : Flat h) {n : Nat} {o : VO} (ho : ∀ m, VO.lowR m o = true) : Flat (h.set n o) := fun p hp m => by
  rcases List.mem_or_eq_of_mem_set hp with z | rfl
  · exact f p z m
  · exact ho m
theorem Flat.app {h : VH} (f : Flat h) {o : VO} (ho : ∀ m, VO.lowR m o = true) : Flat (h ++ [o]) := fun p hp m => by
  rcases List.mem_append.mp hp with z | z
  · exact f p z m
  · rw [List.mem_singleton.mp z]; exact ho m
theorem IsP.low {o : VO} (i : IsP o) (m : Nat) : VO.lowR m o = true := by
  obtain ⟨a, b, rfl, _⟩ := i
  rfl
theorem Iv.draw {n : Nat} {h : VH} (I : Iv n h) {o : VO} (i : IsP o) : Iv n (h.set n o) := ⟨⟨o, List.getElem?_set_self I.lt, i⟩, I.fl.set i.low⟩
theorem Iv.app {n : Nat} {h : VH} (I : Iv n h) {o : VO} (ho : ∀ m, VO.lowR m o = true) : Iv n (h ++ [o]) := by
  obtain ⟨p, e, i⟩ := I.bg
  exact ⟨⟨p, by rw [List.getElem?_append_left I.lt]; exact e, i⟩, I.fl.app ho⟩
theorem Iv.put {n q : Nat} {h : VH} (I : Iv n h) (ne : q ≠ n) {o : VO} (ho : ∀ m, VO.lowR m o = true) : Iv n (h.set q o) := by
  obtain ⟨p, e, i⟩ := I.bg
  exact ⟨⟨p, by rw [List.getElem?_set_ne ne]; exact e, i⟩, I.fl.set ho⟩
theorem draw_ok {n : Nat} {h : VH} {k : Int} (I : Iv n h) (hk : 0 < k) (hk2 : k < 1000000) : ∃ (r : Nat) (o : VO), m_law_draw [.ref n, .int k] h = .ok (.int (r : Nat)) (h.set n o) ∧ (r : Int) < k ∧ IsP o := by
  obtain ⟨o, e, a, b, rfl, hb, hb2⟩ := I.bg
  have hn := I.lt
  clear I
  unfold pur at e
  have hs : ∀ x : VO, (h.set n x)[n]? = some x := fun x => List.getElem?_set_self hn
  clear hn
  have key : ∃ (r : Int) (o : VO), m_law_draw [.ref n, .int k] h = .ok (.int r) (h.set n o) ∧ 0 ≤ r ∧ r < k ∧ IsP o := by
    by_cases ha : 0 < a
    · refine ⟨a % k, pur (a / k) b, ?_, Int.emod_nonneg _ (by omega), Int.emod_lt_of_pos _ hk, _, _, rfl, hb, hb2⟩
      have hq : Builtin.divisionGoesByPylong a k = false := PyProof.noPylong_small (by omega)
      simp [m_law_draw, s_law_draw, defM, startT, sSeq, sSet, sRet, sIf, sExpr, sNil, sAsg, sPar, sPar3, eVar, eK, eOp, eCall, mCall, eL, eH, aLim, aNil, aCons, aStar, eTup, eIf, bTest, TL.bAnd, TL.bOr, TL.bNot, bYes, eAnd, eOr, eNot, eNeg, eChain, eFld, getI, mgName, mgTup, mgsCons, mgsNil, mgSub, bSub, bMod, bFdv, bPow, bI, bI0, bAdd, bMul, bLt, bLe, bGt, bGe, bOrdG, bIs, bIsn, bIsG, TL.isNon, bIx, bSetL, fLen, fList, fTuple, fMax2, fMin2, fII, fAbs, fInt, fDivmod, TL.listOf, seqOf, tupOf, atI, ixN, List.getElem?_cons_zero, List.getElem?_cons_succ, List.set_cons_zero, List.set_cons_succ, List.map, List.length_cons, List.length_nil, List.replicate, List.append_nil, List.cons_append, List.nil_append, Option.bind_some, Option.bind, e, ha, hk, hq, hs, pur]
    · have hm : cMul b 52021 = true := cm_r (by omega) (by omega)
      refine ⟨(b * 52021 + 40503) % 2147483647 / 1024 % k, pur a ((b * 52021 + 40503) % 2147483647), ?_, Int.emod_nonneg _ (by omega), Int.emod_lt_of_pos _ hk, _, _, rfl, Int.emod_nonneg _ (by omega), Int.emod_lt_of_pos _ (by omega)⟩
      simp [m_law_draw, s_law_draw, defM, startT, sSeq, sSet, sRet, sIf, sExpr, sNil, sAsg, sPar, sPar3, eVar, eK, eOp, eCall, mCall, eL, eH, aLim, aNil, aCons, aStar, eTup, eIf, bTest, TL.bAnd, TL.bOr, TL.bNot, bYes, eAnd, eOr, eNot, eNeg, eChain, eFld, getI, mgName, mgTup, mgsCons, mgsNil, mgSub, bSub, bMod, bFdv, bPow, bI, bI0, bAdd, bMul, bLt, bLe, bGt, bGe, bOrdG, bIs, bIsn, bIsG, TL.isNon, bIx, bSetL, fLen, fList, fTuple, fMax2, fMin2, fII, fAbs, fInt, fDivmod, TL.listOf, seqOf, tupOf, atI, ixN, List.getElem?_cons_zero, List.getElem?_cons_succ, List.set_cons_zero, List.set_cons_succ, List.map, List.length_cons, List.length_nil, List.replicate, List.append_nil, List.cons_append, List.nil_append, Option.bind_some, Option.bind, e, ha, hk, hs, hm, pur]
  obtain ⟨r, o, e1, r0, r1, io⟩ := key
  refine ⟨r.toNat, o, ?_, by omega, io⟩
  rw [e1]
  refine congrArg (fun i => Res.ok (T.int i) _) ?_
  omega
def pu1 : MS := (sSet 2 (eIf (bTest (eOp bLt (eVar 1) (eCall fLen (aCons (eVar 0) aNil)))) (eOp TL.bIx (eVar 0) (eVar 1)) (eOp TL.bMul (eK (.int 5417)) (eOp TL.bAdd (eVar 1) (eK (.int 5))))))
def puI : MI := (iSeqC (eOp TL.bAdd (eSl (eVar 0) oNo (oSome (eK (.int 5)))) (eL (aLim (aCons (eVar 2) aNil)))))
def puB : MS := (sSet 3 (eOp TL.bMod (eCall fInt (aCons (eOp TL.bAdd (eOp TL.bAdd (eOp TL.bMul (eVar 3) (eK (.int 39373))) (eOp TL.bMod (eCall fInt (aCons (eVar 4) aNil)) (eK (.int 2147483647)))) (eK (.int 101))) aNil)) (eK (.int 2147483647))))
def puR : MS := (sRet (eH (aLim (aCons (eIf (bTest (eOp bGe (eCall fAbs (aCons (eVar 2) aNil)) (eOp TL.bPow (eK (.int 10)) (eK (.int 18))))) (eCall fAbs (aCons (eVar 2) aNil)) (eK (.int 0))) (aCons (eVar 3) aNil)))))
theorem purse_eq : s_law_purse = sSeq pu1 (sSeq (sSet 3 (eOp TL.bAdd (eK (.int 743)) (eVar 1))) (sSeq (sFor puI (mgName 4) puB) puR)) := rfl
theorem purse_ok {ns : List Int} {s : Nat} {h : VH} (hs : s < 100) (hf : Flat h) (hl : ns.length ≤ 63) : ∃ h', m_law_purse [.arg (ns.map T.int), .int (s : Nat)] h = .ok (.ref h.length) h' ∧ Iv h.length h' := by
  have s1 : ∃ c : Int, pu1 [some (.arg (ns.map T.int)), some (.int (s : Nat)), none, none, none] h = .nx [some (.arg (ns.map T.int)), some (.int (s : Nat)), some (.int c), none, none] h := by
    by_cases q : s < ns.length
    · have ix : atI (ns.map T.int) ((s : Nat) : Int) = some (.int ns[s]) := by rw [ix_nn (by omega) (by rw [List.length_map]; omega), Int.toNat_natCast, List.getElem?_map, List.getElem?_eq_getElem q]; rfl
      exact ⟨ns[s], by simp [pu1, defM, startT, sSeq, sSet, sRet, sIf, sExpr, sNil, sAsg, sPar, sPar3, eVar, eK, eOp, eCall, mCall, eL, eH, aLim, aNil, aCons, aStar, eTup, eIf, bTest, TL.bAnd, TL.bOr, TL.bNot, bYes, eAnd, eOr, eNot, eNeg, eChain, eFld, mgName, mgTup, mgsCons, mgsNil, mgSub, bSub, bMod, bFdv, bPow, bI, bI0, bAdd, bMul, bLt, bLe, bGt, bGe, bOrdG, bIs, bIsn, bIsG, TL.isNon, bIx, bSetL, fLen, fList, fTuple, fMax2, fMin2, fII, fAbs, fInt, fDivmod, TL.listOf, seqOf, tupOf, List.getElem?_cons_zero, List.getElem?_cons_succ, List.set_cons_zero, List.set_cons_succ, List.map, List.length_cons, List.length_nil, List.replicate, List.append_nil, List.cons_append, List.nil_append, Option.bind_some, Option.bind, q, ix]⟩
    · have m1 : cMul 5417 ((s : Nat) + 5 : Int) = true := cm_l (by omega) (by omega)
      exact ⟨_, by simp [pu1, defM, startT, sSeq, sSet, sRet, sIf, sExpr, sNil, sAsg, sPar, sPar3, eVar, eK, eOp, eCall, mCall, eL, eH, aLim, aNil, aCons, aStar, eTup, eIf, bTest, TL.bAnd, TL.bOr, TL.bNot, bYes, eAnd, eOr, eNot, eNeg, eChain, eFld, mgName, mgTup, mgsCons, mgsNil, mgSub, bSub, bMod, bFdv, bPow, bI, bI0, bAdd, bMul, bLt, bLe, bGt, bGe, bOrdG, bIs, bIsn, bIsG, TL.isNon, bIx, bSetL, fLen, fList, fTuple, fMax2, fMin2, fII, fAbs, fInt, fDivmod, TL.listOf, seqOf, tupOf, List.getElem?_cons_zero, List.getElem?_cons_succ, List.set_cons_zero, List.set_cons_succ, List.map, List.length_cons, List.length_nil, List.replicate, List.append_nil, List.cons_append, List.nil_append, Option.bind_some, Option.bind, q, m1]; rfl⟩
  obtain ⟨c, s1⟩ := s1
  have s1b : sSet 3 (eOp TL.bAdd (eK (.int 743)) (eVar 1)) [some (.arg (ns.map T.int)), some (.int (s : Nat)), some (.int c), none, none] h = .nx [some (.arg (ns.map T.int)), some (.int (s : Nat)), some (.int c), some (.int (743 + (s : Nat))), none] h := rfl
  obtain ⟨ts, s2, s3⟩ : ∃ ts, puI [some (.arg (ns.map T.int)), some (.int (s : Nat)), some (.int c), some (.int (743 + (s : Nat))), none] h = .ok (fun h => seqS h (.lst ts)) h ∧ ∀ t ∈ ts, ∃ i, t = T.int i := by
    refine ⟨cutT (ns.map T.int) none (some 5) ++ [.int c], ?_, fun t ht => ?_⟩
    · have ll : (cutT (ns.map T.int) none (some 5)).length ≤ 63 := by
        unfold cutT
        simp only [List.length_drop, List.length_take, List.length_map]
        omega
      have ll2 : (cutT (ns.map T.int) none (some 5)).length + 1 ≤ 16777216 := by omega
      simp [puI, defM, startT, sSeq, sSet, sRet, sIf, sExpr, sNil, sAsg, sPar, sPar3, eVar, eK, eOp, eCall, mCall, eL, eH, aLim, aNil, aCons, aStar, eTup, eIf, bTest, TL.bAnd, TL.bOr, TL.bNot, bYes, eAnd, eOr, eNot, eNeg, eChain, eFld, mgName, mgTup, mgsCons, mgsNil, mgSub, bSub, bMod, bFdv, bPow, bI, bI0, bAdd, bMul, bLt, bLe, bGt, bGe, bOrdG, bIs, bIsn, bIsG, TL.isNon, bIx, bSetL, fLen, fList, fTuple, fMax2, fMin2, fII, fAbs, fInt, fDivmod, TL.listOf, seqOf, tupOf, List.getElem?_cons_zero, List.getElem?_cons_succ, List.set_cons_zero, List.set_cons_succ, List.map, List.length_cons, List.length_nil, List.replicate, List.append_nil, List.cons_append, List.nil_append, Option.bind_some, Option.bind, iSeqC, walkable, seqS, eSl, oNo, oSome, bSl, ll2]
    · rcases List.mem_append.mp ht with q | q
      · unfold cutT at q
        obtain ⟨i, _, rfl⟩ := List.mem_map.mp (List.mem_of_mem_drop (List.mem_of_mem_take q))
        exact ⟨i, rfl⟩
      · exact ⟨c, List.mem_singleton.mp q⟩
  obtain ⟨τ', h', q1, d, a, rfl, rfl, d0, d1⟩ := sFor_inv (g := mgName 4) (body := puB) (ts := ts) (fun _ τ h' => ∃ (d : Int) (a : Option T), τ = [some (.arg (ns.map T.int)), some (.int (s : Nat)), some (.int c), some (.int d), a] ∧ h' = h ∧ 0 ≤ d ∧ d < 2147483647) s2 ⟨743 + (s : Nat), none, rfl, rfl, by omega, by omega⟩ (fun _ _ _ _ => rfl) (fun i hi τ h' I => by
    obtain ⟨d, a, rfl, rfl, d0, d1⟩ := I
    obtain ⟨p, hp⟩ := s3 _ (List.getElem_mem hi)
    have m1 : cMul d 39373 = true := cm_r (by omega) (by omega)
    refine ⟨_, _, _, _, rfl, .inl ?_, (d * 39373 + p % 2147483647 + 101) % 2147483647, some (.int p), rfl, rfl, Int.emod_nonneg _ (by omega), Int.emod_lt_of_pos _ (by omega)⟩
    rw [hp]
    simp [puB, defM, startT, sSeq, sSet, sRet, sIf, sExpr, sNil, sAsg, sPar, sPar3, eVar, eK, eOp, eCall, mCall, eL, eH, aLim, aNil, aCons, aStar, eTup, eIf, bTest, TL.bAnd, TL.bOr, TL.bNot, bYes, eAnd, eOr, eNot, eNeg, eChain, eFld, mgName, mgTup, mgsCons, mgsNil, mgSub, bSub, bMod, bFdv, bPow, bI, bI0, bAdd, bMul, bLt, bLe, bGt, bGe, bOrdG, bIs, bIsn, bIsG, TL.isNon, bIx, bSetL, fLen, fList, fTuple, fMax2, fMin2, fII, fAbs, fInt, fDivmod, TL.listOf, seqOf, tupOf, List.getElem?_cons_zero, List.getElem?_cons_succ, List.set_cons_zero, List.set_cons_succ, List.map, List.length_cons, List.length_nil, List.replicate, List.append_nil, List.cons_append, List.nil_append, Option.bind_some, Option.bind, mgName, m1])
  have s4 : ∃ b, puR [some (.arg (ns.map T.int)), some (.int (s : Nat)), some (.int c), some (.int d), a] h' = .rt (.ref h'.length) (h' ++ [pur b d]) := by
    by_cases q : 1000000000000000000 ≤ (if c < 0 then -c else c)
    · exact ⟨(if c < 0 then -c else c), by simp [puR, defM, startT, sSeq, sSet, sRet, sIf, sExpr, sNil, sAsg, sPar, sPar3, eVar, eK, eOp, eCall, mCall, eL, eH, aLim, aNil, aCons, aStar, eTup, eIf, bTest, TL.bAnd, TL.bOr, TL.bNot, bYes, eAnd, eOr, eNot, eNeg, eChain, eFld, mgName, mgTup, mgsCons, mgsNil, mgSub, bSub, bMod, bFdv, bPow, bI, bI0, bAdd, bMul, bLt, bLe, bGt, bGe, bOrdG, bIs, bIsn, bIsG, TL.isNon, bIx, bSetL, fLen, fList, fTuple, fMax2, fMin2, fII, fAbs, fInt, fDivmod, TL.listOf, seqOf, tupOf, List.getElem?_cons_zero, List.getElem?_cons_succ, List.set_cons_zero, List.set_cons_succ, List.map, List.length_cons, List.length_nil, List.replicate, List.append_nil, List.cons_append, List.nil_append, Option.bind_some, Option.bind, q, pur]⟩
    · exact ⟨0, by simp [puR, defM, startT, sSeq, sSet, sRet, sIf, sExpr, sNil, sAsg, sPar, sPar3, eVar, eK, eOp, eCall, mCall, eL, eH, aLim, aNil, aCons, aStar, eTup, eIf, bTest, TL.bAnd, TL.bOr, TL.bNot, bYes, eAnd, eOr, eNot, eNeg, eChain, eFld, mgName, mgTup, mgsCons, mgsNil, mgSub, bSub, bMod, bFdv, bPow, bI, bI0, bAdd, bMul, bLt, bLe, bGt, bGe, bOrdG, bIs, bIsn, bIsG, TL.isNon, bIx, bSetL, fLen, fList, fTuple, fMax2, fMin2, fII, fAbs, fInt, fDivmod, TL.listOf, seqOf, tupOf, List.getElem?_cons_zero, List.getElem?_cons_succ, List.set_cons_zero, List.set_cons_succ, List.map, List.length_cons, List.length_nil, List.replicate, List.append_nil, List.cons_append, List.nil_append, Option.bind_some, Option.bind, q, pur]⟩
  obtain ⟨b, s4⟩ := s4
  have ib : IsP (pur b d) := ⟨_, _, rfl, d0, d1⟩
  refine ⟨h' ++ [pur b d], ?_, ⟨⟨_, by rw [List.getElem?_append_right (Nat.le_refl _), Nat.sub_self]; rfl, ib⟩, hf.app ib.low⟩⟩
  show defM 5 2 s_law_purse _ _ = _
  rw [purse_eq]
  exact defM_rt rfl ((seq_nx s1).trans ((seq_nx s1b).trans ((seq_nx q1).trans s4)))
/-! ### comprehensions that change the heap -/
theorem lcL_inv {rd : VH → Option (List T)} {g : MG} {e : ME} {τ : TS_} {ts : List T} (hrd : ∀ h, rd h = some ts) (I : Nat → List T → VH → Prop) (hb : ∀ i (hi : i < ts.length) acc h, I i acc h → ∃ τ1 y h', g ts[i] τ h = .ok τ1 h ∧ e τ1 h = .ok y h' ∧ I (i + 1) (acc ++ [y]) h') :
    ∀ (k i : Nat) (acc : List T) (h : VH), i + k = ts.length → I i acc h → ∃ acc' h', lcL rd g bYes e τ ts.length k i acc h = .ok acc' h' ∧ I ts.length acc' h' := by
  intro k
  induction k with
  | zero =>
    intro i acc h hi Ih
    obtain rfl : i = ts.length := by omega
    exact ⟨acc, h, by simp [lcL, hrd], Ih⟩
  | succ k ih =>
    intro i acc h hi Ih
    have hlt : i < ts.length := by omega
    have e1 : ts[i]? = some ts[i] := List.getElem?_eq_getElem hlt
    obtain ⟨τ1, y, h2, a1, a2, I2⟩ := hb i hlt acc h Ih
    obtain ⟨acc', h3, z, I3⟩ := ih (i + 1) (acc ++ [y]) h2 (by omega) I2
    refine ⟨acc', h3, ?_, I3⟩
    have b : bYes τ1 h = .ok true h := rfl
    simp only [lcL, hrd, e1, a1, b, a2, if_true]
    exact z
theorem mLc_inv {mi : MI} {ws : List Nat} {g : MG} {e : ME} {τ : TS_} {h h1 : VH} {rd : VH → Option (List T)} {ts : List T} (hm : mi τ h = .ok rd h1) (hrd : ∀ h, rd h = some ts) (hl : ts.length ≤ 16777216) (I : Nat → List T → VH → Prop) (h0 : I 0 [] h1)
    (hb : ∀ i (hi : i < ts.length) acc h, I i acc h → ∃ τ1 y h', g ts[i] (wipeT τ ws) h = .ok τ1 h ∧ e τ1 h = .ok y h' ∧ I (i + 1) (acc ++ [y]) h') : ∃ acc h', mLc mi ws g bYes e τ h = .ok acc h' ∧ I ts.length acc h' := by
  obtain ⟨acc, h', z, J⟩ := lcL_inv (g := g) (e := e) (τ := wipeT τ ws) hrd I hb ts.length 0 [] h1 (by omega) h0
  exact ⟨acc, h', by simp [mLc, hm, hrd, hl, z], J⟩
theorem rngk {g : MA} {τ : TS_} {h h1 : VH} {K : Nat} (e : g τ h = .ok [.int (K : Nat)] h1) (hK : K ≤ 100000) : iRange1 g τ h = .ok (fun _ => some (rangeT 0 K)) h1 := by
  unfold iRange1
  rw [e]
  simp only
  rw [if_pos ⟨by omega, by omega⟩, Int.toNat_natCast]
theorem max2_int (p q : Int) (h : VH) : fMax2 [.int p, .int q] h = .ok (.int (if q > p then q else p)) h := rfl
theorem allT {α : Type} (l : List α) (h : VH) : fAll [.lst (l.map fun _ => T.bl true)] h = .ok (.bl true) h := by
  have := hAll l (fun _ => true) h
  rw [this, List.all_eq_true.mpr fun _ _ => rfl]
/-- a law of cases: each is made of a number of the script, each is right -/
theorem cases_ok {bag right : List T → VH → Res T} {m : Nat} (hm : m ≤ 50) (hb : ∀ (ns : List Int) (s : Nat) (h : VH), ns.length ≤ 63 → s < 100 → Flat h → ∃ h', bag [.arg (ns.map T.int), .int (s : Nat)] h = .ok (.ref h.length) h' ∧ Iv h.length h')
    (hr : ∀ (n : Nat) (h : VH), Iv n h → ∃ h', right [.ref n] h = .ok (.bl true) h' ∧ Iv n h') (ns : List Int) (hl : ns.length ≤ 63) :
    ∃ h', defM 2 1 (sRet (eCall fAll (aCons (eL (mLc (iRange1 (aCons (eCall fMax2 (aCons (eK (.int 2)) (aCons (eCall fMin2 (aCons (eCall fLen (aCons (eVar 0) aNil)) (aCons (eK (.int (m : Nat))) aNil))) aNil))) aNil)) [1] (mgName 1) bYes (eCall right (aCons (eCall bag (aCons (eVar 0) (aCons (eVar 1) aNil))) aNil)))) aNil))) [.arg (ns.map T.int)] [] = .ok (.bl true) h' := by
  obtain ⟨K, hK, eK'⟩ : ∃ K : Nat, K ≤ 50 ∧ (if (if ((m : Nat) : Int) < ((ns.length : Nat) : Int) then ((m : Nat) : Int) else ((ns.length : Nat) : Int)) > 2 then (if ((m : Nat) : Int) < ((ns.length : Nat) : Int) then ((m : Nat) : Int) else ((ns.length : Nat) : Int)) else (2 : Int)) = (K : Nat) := by
    by_cases q : (m : Int) < (ns.length : Nat)
    · rw [if_pos q]
      by_cases p : (m : Int) > 2
      · rw [if_pos p]; exact ⟨m, hm, rfl⟩
      · rw [if_neg p]; exact ⟨2, by omega, rfl⟩
    · rw [if_neg q]
      by_cases p : ((ns.length : Nat) : Int) > 2
      · rw [if_pos p]; exact ⟨ns.length, by omega, rfl⟩
      · rw [if_neg p]; exact ⟨2, by omega, rfl⟩
  have e1 : aCons (eCall fMax2 (aCons (eK (.int 2)) (aCons (eCall fMin2 (aCons (eCall fLen (aCons (eVar 0) aNil)) (aCons (eK (.int (m : Nat))) aNil))) aNil))) aNil (startT 2 [.arg (ns.map T.int)]) [] = .ok [.int (K : Nat)] [] := by
    have l1 : eCall fLen (aCons (eVar 0) aNil) (startT 2 [.arg (ns.map T.int)]) [] = .ok (.int (ns.length : Nat)) [] := by
      refine (call_ok (ts := [.arg (ns.map T.int)]) rfl).trans ?_
      simp [fLen, seqOf]
    have l2 := (call_ok (b := fMin2) (cons_ok l1 (rfl : aCons (eK (.int (m : Nat))) aNil (startT 2 [.arg (ns.map T.int)]) [] = .ok [.int (m : Nat)] []))).trans (minI2 _ _ _)
    have l3 := (call_ok (b := fMax2) (cons_ok (rfl : eK (.int 2) (startT 2 [.arg (ns.map T.int)]) [] = .ok (.int 2) []) (cons_ok l2 (rfl : aNil (startT 2 [.arg (ns.map T.int)]) [] = .ok [] [])))).trans (max2_int _ _ _)
    rw [eK'] at l3
    exact cons_ok l3 rfl
  obtain ⟨acc, h', z, ea, fl⟩ := mLc_inv (mi := iRange1 (aCons (eCall fMax2 (aCons (eK (.int 2)) (aCons (eCall fMin2 (aCons (eCall fLen (aCons (eVar 0) aNil)) (aCons (eK (.int (m : Nat))) aNil))) aNil))) aNil)) (ws := [1]) (g := mgName 1) (e := eCall right (aCons (eCall bag (aCons (eVar 0) (aCons (eVar 1) aNil))) aNil)) (τ := startT 2 [.arg (ns.map T.int)]) (h := []) (h1 := []) (rd := fun _ => some (rangeT 0 K)) (ts := rangeT 0 K) (rngk e1 (by omega)) (fun _ => rfl) (by rw [range_len]; omega)
    (fun i acc h => acc = (List.range i).map (fun _ => T.bl true) ∧ Flat h) ⟨rfl, fun o ho => by cases ho⟩ (fun i hi acc h J => by
      obtain ⟨ea, f⟩ := J
      obtain ⟨hi2, ei⟩ := range_at hi
      rw [ei, Int.zero_add]
      obtain ⟨h1, b1, I1⟩ := hb ns i h hl (by omega) f
      obtain ⟨h2, b2, I2⟩ := hr _ h1 I1
      refine ⟨[some (.arg (ns.map T.int)), some (.int (i : Nat))], .bl true, h2, rfl, (call_ok (cons_ok ((call_ok (ts := [.arg (ns.map T.int), .int (i : Nat)]) rfl).trans b1) rfl)).trans b2, ?_, I2.fl⟩
      rw [ea, List.range_succ, List.map_append]
      rfl)
  rw [ea] at z
  exact ⟨h', defM_rt rfl (ret_ok ((call_ok (cons_ok (eL_ok z) rfl)).trans (allT (List.range _) h')))⟩
end BD

set_option Elab.async false
set_option linter.all false
set_option maxRecDepth 100000
set_option maxHeartbeats 4000000
namespace BD
open PySem L2 TL K13
theorem erase_map {α β : Type} (f : α → β) : ∀ (l : List α) (i : Nat), (l.map f).eraseIdx i = (l.eraseIdx i).map f
  | [], _ => rfl
  | _ :: _, 0 => rfl
  | a :: l, i + 1 => by
    show f a :: (l.map f).eraseIdx i = f a :: (l.eraseIdx i).map f
    rw [erase_map f l i]
theorem erase_perm {α : Type} : ∀ (l : List α) (i : Nat) (hi : i < l.length), (l[i] :: l.eraseIdx i).Perm l
  | [], _, h => by cases h
  | _ :: _, 0, _ => List.Perm.refl _
  | a :: l, i + 1, h => (List.Perm.swap a (l[i]'(Nat.lt_of_succ_lt_succ h)) (l.eraseIdx i)).trans ((erase_perm l i (Nat.lt_of_succ_lt_succ h)).cons a)
/-- all but the draws stands as it was -/
def Same (n : Nat) (h h' : VH) : Prop := h.length ≤ h'.length ∧ ∀ x, x < h.length → x ≠ n → h'[x]? = h[x]?
theorem Same.refl {n : Nat} {h : VH} : Same n h h := ⟨Nat.le_refl _, fun _ _ _ => rfl⟩
theorem Same.trans {n : Nat} {h h1 h2 : VH} (a : Same n h h1) (b : Same n h1 h2) : Same n h h2 :=
  ⟨Nat.le_trans a.1 b.1, fun x hx ne => (b.2 x (Nat.lt_of_lt_of_le hx a.1) ne).trans (a.2 x hx ne)⟩
theorem Same.draw {n : Nat} {h : VH} {o : VO} : Same n h (h.set n o) := ⟨by rw [List.length_set]; exact Nat.le_refl _, fun x _ ne => List.getElem?_set_ne (Ne.symm ne)⟩
theorem Same.app {n : Nat} {h r : VH} : Same n h (h ++ r) := ⟨by rw [List.length_append]; omega, fun x hx _ => List.getElem?_append_left hx⟩
theorem Same.put {n q : Nat} {h0 h : VH} (s : Same n h0 h) (hq : h0.length ≤ q) {o : VO} : Same n h0 (h.set q o) := ⟨by rw [List.length_set]; exact s.1, fun x hx ne => (List.getElem?_set_ne (by omega)).trans (s.2 x hx ne)⟩
theorem nI_low (l : List Nat) (m : Nat) : VO.lowR m (.lst (l.map nI)) = true := ints_low l m
theorem lenR {q : Nat} {h : VH} {ts : List T} {f : ME} {τ : TS_} (e : f τ h = .ok (.ref q) h) (hq : h[q]? = some (.lst ts)) : eCall fLen (aCons f aNil) τ h = .ok (.int (ts.length : Nat)) h := by
  refine (call_ok (b := fLen) (cons_ok e rfl)).trans ?_
  simp [fLen, TL.seqOf, TL.listOf, hq]
theorem pop_ok {n q : Nat} {h : VH} (I : Iv n h) (ne : q ≠ n) {ls : List Nat} (hq : h[q]? = some (.lst (ls.map nI))) (h0 : ls ≠ []) (h1 : ls.length ≤ 1000) {i0 iq : Nat} {τ : TS_} (v0 : ∀ h, eVar i0 τ h = .ok (.ref n) h) (vq : ∀ h, eVar iq τ h = .ok (.ref q) h) :
    ∃ (r : Nat) (hr : r < ls.length) (h' : VH), eMt "list" mPopAt (eVar iq) (aCons (eCall m_law_draw (aCons (eVar i0) (aCons (eCall fLen (aCons (eVar iq) aNil)) aNil))) aNil) τ h = .ok (nI ls[r]) h' ∧ Iv n h' ∧ h'[q]? = some (.lst ((ls.eraseIdx r).map nI)) ∧ (∀ p, p ≠ n → p ≠ q → h'[p]? = h[p]?) ∧ h'.length = h.length := by
  have lp : 0 < ls.length := List.length_pos_iff.mpr h0
  have L := lenR (vq h) hq
  rw [List.length_map] at L
  obtain ⟨r, o, e, lt, io⟩ := draw_ok (k := ((ls.length : Nat) : Int)) I (by omega) (by omega)
  have hr : r < ls.length := by omega
  have D := (call_ok (b := m_law_draw) (cons_ok (v0 h) (cons_ok L (rfl : aNil τ h = .ok [] h)))).trans e
  have hq1 : (h.set n o)[q]? = some (.lst (ls.map nI)) := by rw [List.getElem?_set_ne (Ne.symm ne)]; exact hq
  have I1 := I.draw io
  have lq : q < (h.set n o).length := (List.getElem?_eq_some_iff.mp hq1).1
  refine ⟨r, hr, (h.set n o).set q (.lst ((ls.eraseIdx r).map nI)), ?_, I1.put ne (fun m => nI_low _ m), List.getElem?_set_self lq, fun p p1 p2 => ?_, by rw [List.length_set, List.length_set]⟩
  · have tt : tyT h "list" (.ref q) = true := by simp [tyT, hq]
    unfold eMt
    simp only [vq h, tt, if_true, cons_ok D (rfl : aNil τ (h.set n o) = .ok [] (h.set n o)), mPopAt, hq1]
    have sx : seqIndex? ((r : Nat) : Int) (ls.map nI).length = some r := by
      unfold seqIndex?
      rw [List.length_map]
      have a : ¬ ((r : Nat) : Int) < 0 := by omega
      simp [a, hr]
    rw [if_pos ⟨by omega, by omega⟩]
    have g : (ls.map nI)[r]? = some (nI ls[r]) := by rw [List.getElem?_map, List.getElem?_eq_getElem hr]; rfl
    simp only [sx, g, erase_map]
  · rw [List.getElem?_set_ne (Ne.symm p2), List.getElem?_set_ne (Ne.symm p1)]
/-- so many cells, drawn one by one -/
theorem pops_ok {n q : Nat} {h : VH} (I : Iv n h) (ne : q ≠ n) {size K : Nat} (s1 : size ≤ 1000) (hK : K ≤ size) (hq : h[q]? = some (.lst ((List.range size).map nI))) {i0 iq ik ic : Nat} {τ : TS_} (vc : eVar ic τ h = .ok (nI K) h)
    (v0 : ∀ t h, eVar i0 ((wipeT τ [ik]).set ik (some t)) h = .ok (.ref n) h) (vq : ∀ t h, eVar iq ((wipeT τ [ik]).set ik (some t)) h = .ok (.ref q) h) :
    ∃ (ps : List Nat) (h' : VH), mLc (iRange1 (aCons (eVar ic) aNil)) [ik] (mgName ik) bYes (eMt "list" mPopAt (eVar iq) (aCons (eCall m_law_draw (aCons (eVar i0) (aCons (eCall fLen (aCons (eVar iq) aNil)) aNil))) aNil)) τ h = .ok (ps.map nI) h' ∧ ps.length = K ∧ ps.Nodup ∧ (∀ c ∈ ps, c < size) ∧ Iv n h' ∧ (∀ p, p ≠ n → p ≠ q → h'[p]? = h[p]?) ∧ h'.length = h.length := by
  obtain ⟨acc, h', z, ps, ls, rfl, e1, pm, I', hq', sm, ln⟩ := mLc_inv (mi := iRange1 (aCons (eVar ic) aNil)) (ws := [ik]) (g := mgName ik) (e := eMt "list" mPopAt (eVar iq) (aCons (eCall m_law_draw (aCons (eVar i0) (aCons (eCall fLen (aCons (eVar iq) aNil)) aNil))) aNil)) (τ := τ) (h := h) (h1 := h) (rd := fun _ => some (rangeT 0 K)) (ts := rangeT 0 K) (rngk (cons_ok vc rfl) (by omega)) (fun _ => rfl) (by rw [range_len]; omega)
    (fun i acc h' => ∃ ps ls : List Nat, acc = ps.map nI ∧ ps.length = i ∧ (ps ++ ls).Perm (List.range size) ∧ Iv n h' ∧ h'[q]? = some (.lst (ls.map nI)) ∧ (∀ p, p ≠ n → p ≠ q → h'[p]? = h[p]?) ∧ h'.length = h.length) ⟨[], List.range size, rfl, rfl, List.Perm.refl _, I, hq, fun _ _ _ => rfl, rfl⟩ (fun i hi acc h1 J => by
      obtain ⟨ps, ls, rfl, e1, pm, I', hq', sm, ln⟩ := J
      rw [range_len] at hi
      have pl := pm.length_eq
      rw [List.length_append, List.length_range] at pl
      obtain ⟨r, hr, h2, e, I2, hq2, sm2, ln2⟩ := pop_ok I' ne hq' (fun z => by rw [z] at pl; simp at pl; omega) (by omega) (v0 (rangeT 0 K)[i]) (vq (rangeT 0 K)[i])
      refine ⟨_, nI ls[r], h2, rfl, e, ps ++ [ls[r]], ls.eraseIdx r, by rw [List.map_append]; rfl, by rw [List.length_append, e1]; rfl, ?_, I2, hq2, fun p p1 p2 => (sm2 p p1 p2).trans (sm p p1 p2), ln2.trans ln⟩
      rw [List.append_assoc]
      exact (List.Perm.append_left ps (erase_perm ls r hr)).trans pm)
  rw [range_len] at e1
  have nd : (ps ++ ls).Nodup := pm.nodup_iff.mpr List.nodup_range
  exact ⟨ps, h', z, e1, (List.nodup_append.mp nd).1, fun c hc => List.mem_range.mp (pm.mem_iff.mp (List.mem_append_left _ hc)), I', sm, ln⟩
theorem eqv_ints : ∀ (a b : List Nat), PyData.eqvAll (a.map fun c : Nat => PyData.int (c : Nat)) (b.map fun c : Nat => PyData.int (c : Nat)) = decide (a = b)
  | [], [] => by simp [PyData.eqvAll]
  | [], _ :: _ => by simp [PyData.eqvAll]
  | _ :: _, [] => by simp [PyData.eqvAll]
  | x :: a, y :: b => by
    simp only [List.map_cons, PyData.eqvAll, PyData.eqv, eqv_ints a b]
    by_cases p : x = y
    · subst p
      by_cases q : a = b
      · simp [q]
      · simp [q]
    · have : ((x : Nat) : Int) ≠ (y : Nat) := by omega
      simp [p, this]
theorem eqv_line (a b : List Nat) : PyData.eqv (lnD a) (lnD b) = decide (a = b) := by
  show PyData.eqv (.tuple (a.map _)) (.tuple (b.map _)) = _
  simp only [PyData.eqv]
  exact eqv_ints a b
theorem any_lines (r : List Nat) (rs : List (List Nat)) : ((rs.map lnD).any fun z => PyData.eqv z (lnD r)) = decide (r ∈ rs) := by
  induction rs with
  | nil => simp
  | cons s rs ih =>
    rw [List.map_cons, List.any_cons, ih, eqv_line]
    by_cases q : s = r
    · simp [q]
    · have : r ≠ s := fun z => q z.symm
      simp [q, this]
theorem lines_dat (rs : List (List Nat)) (h : VH) (k : Nat) : (rs.map lineT).mapM (T.dat h (k + 1)) = some (rs.map lnD) := by
  rw [List.mapM_map]
  exact mapM_some fun r _ => line_dat r h k
theorem nin_heap {p : Nat} {h : VH} {rs : List (List Nat)} (hp : h[p]? = some (.lst (rs.map lineT))) (r : List Nat) : TL.bNin (lineT r) (.ref p) h = .ok (.bl (!decide (r ∈ rs))) h := by
  have e1 : T.dat h 11 (.ref p) = some (.list (rs.map lnD)) := by
    show (match h[p]? with | some (.lst ts) => (ts.mapM (T.dat h 10)).map PyData.list | _ => none) = _
    rw [hp]
    simp only [lines_dat rs h 9]
    rfl
  have e2 : T.dat h 10 (lineT r) = some (lnD r) := line_dat r h 9
  have e3 : TL.bNin (lineT r) (.ref p) h = (match T.dat h 10 (lineT r), T.dat h 11 (.ref p) with
    | some d, some (.list ds) => Res.ok (.bl (true != ds.any fun z => PyData.eqv z d)) h
    | some d, some (.tuple ds) => .ok (.bl (true != ds.any fun z => PyData.eqv z d)) h
    | _, _ => .bad) := rfl
  rw [e3, e1, e2]
  simp only [any_lines, Bool.true_bne]
theorem app_ok {p : Nat} {h : VH} {ts : List T} {t : T} {f g : ME} {τ : TS_} (hp : h[p]? = some (.lst ts)) (hl : ts.length < 16777216) (e : f τ h = .ok (.ref p) h) (e2 : g τ h = .ok t h) : sExpr (eMt "list" mAppend f (aCons g aNil)) τ h = .nx τ (h.set p (.lst (ts ++ [t]))) := by
  have tt : tyT h "list" (.ref p) = true := by simp [tyT, hp]
  refine expr_ok (t := .non) ?_
  unfold eMt
  simp only [e, tt, if_true, cons_ok e2 (rfl : aNil τ h = .ok [] h), mAppend, hp, if_pos hl]
end BD

set_option Elab.async false
set_option linter.all false
set_option maxRecDepth 100000
set_option maxHeartbeats 4000000
namespace BD
open PySem L2 TL K13
def rwA1 : MS := (sAsg (eTup (aCons (eOp TL.bAdd (eK (.int 1)) (eCall m_law_draw (aCons (eVar 0) (aCons (eCall fMin2 (aCons (eVar 3) (aCons (eVar 1) aNil))) aNil)))) (aCons (eH (mRg1 (eVar 1))) aNil))) (mgTup 2 (mgsCons (mgName 6) (mgsCons (mgName 7) mgsNil))))
def rwA2 : MS := (sIf (TL.bAnd (bTest (eOp TL.bEq (eVar 6) (eK (.int 1)))) (bTest (eOp TL.bGt (eCall m_law_draw (aCons (eVar 0) (aCons (eK (.int 4)) aNil))) (eK (.int 0))))) (sSet 6 (eCall fMin2 (aCons (eK (.int 2)) (aCons (eVar 1) aNil)))) sNil)
def rwA3 : MS := (sSet 8 (eCall fTuple (aCons (eL (mCall fSorted (aCons (eL (mLc (iRange1 (aCons (eVar 6) aNil)) [9] (mgName 9) bYes (eMt "list" mPopAt (eVar 7) (aCons (eCall m_law_draw (aCons (eVar 0) (aCons (eCall fLen (aCons (eVar 7) aNil)) aNil))) aNil)))) aNil))) aNil)))
def rwA4 : MS := (sIf (bTest (eOp TL.bNin (eVar 8) (eVar 4))) (sExpr (eMt "list" mAppend (eVar 4) (aCons (eVar 8) aNil))) sNil)
def rwB : MS := sSeq rwA1 (sSeq rwA2 (sSeq rwA3 rwA4))
def rwM : MI := (iRange1 (aCons (eCall m_law_draw (aCons (eVar 0) (aCons (eOp TL.bAdd (eVar 2) (eK (.int 1))) aNil))) aNil))
theorem rw_eq : s_law_rows = sSeq (sSet 4 (eH (aLim aNil))) (sSeq (sFor rwM (mgName 5) rwB) (sRet (eL (mCall fSorted (aCons (eVar 4) aNil))))) := rfl
abbrev rwF (n size most wide p : Nat) (turn cnt left row k : Option T) : TS_ := [some (.ref n), some (nI size), some (nI most), some (nI wide), some (.ref p), turn, cnt, left, row, k]
theorem range_nI (K : Nat) : rangeT 0 K = (List.range K).map nI := by
  unfold rangeT
  refine List.map_congr_left fun i _ => ?_
  show T.int (0 + (i : Int)) = T.int (i : Nat)
  rw [Int.zero_add]
theorem min2n (a b : Nat) (h : VH) : fMin2 [nI a, nI b] h = .ok (nI (min a b)) h := by
  rw [show fMin2 [nI a, nI b] h = Res.ok (.int (if ((b : Nat) : Int) < (a : Nat) then ((b : Nat) : Int) else (a : Nat))) h from rfl]
  refine congrArg (fun i => Res.ok (T.int i) h) ?_
  split <;> omega
structure Drawn (size wide : Nat) (fs : List (List Nat)) : Prop where
  line : ∀ l ∈ fs, Line size l
  sh : ∀ l ∈ fs, l.length ≤ max wide 2
  nd : fs.Nodup
section
variable {n size most wide p : Nat}
theorem rwA12_ok {h : VH} (I : Iv n h) (s0 : 0 < size) (s1 : size ≤ 30) (w0 : 0 < wide) (w1 : wide ≤ 1000) (turn cnt left row k : Option T) :
    ∃ (c : Nat) (h' : VH), sSeq rwA1 rwA2 (rwF n size most wide p turn cnt left row k) h = .nx (rwF n size most wide p turn (some (nI c)) (some (.ref h.length)) row k) h' ∧ 0 < c ∧ c ≤ size ∧ c ≤ max wide 2 ∧ Iv n h' ∧ h'[h.length]? = some (.lst ((List.range size).map nI)) ∧ Same n h h' ∧ h'.length = h.length + 1 := by
  obtain ⟨τ, hτ⟩ : ∃ τ, τ = rwF n size most wide p turn cnt left row k := ⟨_, rfl⟩
  have v0 : eVar 0 τ h = .ok (.ref n) h := by rw [hτ]; rfl
  have v1 : ∀ h, eVar 1 τ h = .ok (nI size) h := fun h => by rw [hτ]; rfl
  have v3 : eVar 3 τ h = .ok (nI wide) h := by rw [hτ]; rfl
  have M := (call_ok (b := fMin2) (cons_ok v3 (cons_ok (v1 h) (rfl : aNil τ h = .ok [] h)))).trans (min2n wide size h)
  obtain ⟨r, o, e, lt, io⟩ := draw_ok (k := ((min wide size : Nat) : Int)) I (by omega) (by omega)
  have D := (call_ok (b := m_law_draw) (cons_ok v0 (cons_ok M (rfl : aNil τ h = .ok [] h)))).trans e
  have A := (op_ok (b := TL.bAdd) (rfl : eK (.int 1) τ h = .ok (.int 1) h) D).trans (hAdd _ _ _)
  rw [show (1 : Int) + (r : Nat) = ((r + 1 : Nat) : Int) by omega] at A
  have I1 := I.draw io
  obtain ⟨h1, e1⟩ : ∃ h1, h1 = h.set n o := ⟨_, rfl⟩
  rw [← e1] at A I1
  have l1 : h1.length = h.length := by rw [e1, List.length_set]
  have sm1 : Same n h h1 := by rw [e1]; exact .draw
  have R : eH (mRg1 (eVar 1)) τ h1 = .ok (.ref h.length) (h1 ++ [.lst ((List.range size).map nI)]) := by
    unfold eH mRg1
    rw [v1]
    simp only
    rw [if_pos ⟨by omega, by omega⟩, Int.toNat_natCast, range_nI]
    simp only [l1]
  obtain ⟨h2, e2⟩ : ∃ h2, h2 = h1 ++ [VO.lst ((List.range size).map nI)] := ⟨_, rfl⟩
  rw [← e2] at R
  have I2 : Iv n h2 := by rw [e2]; exact I1.app (nI_low _)
  have q2 : h2[h.length]? = some (.lst ((List.range size).map nI)) := by rw [e2, List.getElem?_append_right (by omega), l1, Nat.sub_self]; rfl
  have sm2 : Same n h h2 := by rw [e2]; exact sm1.trans .app
  have l2 : h2.length = h.length + 1 := by rw [e2, List.length_append, l1]; rfl
  have S1 : rwA1 τ h = .nx (rwF n size most wide p turn (some (nI (r + 1))) (some (.ref h.length)) row k) h2 := by
    unfold rwA1 sAsg eTup
    rw [cons_ok A (cons_ok R (rfl : aNil τ h2 = .ok [] h2)), hτ]
    rfl
  rw [← hτ]
  obtain ⟨τ2, hτ2⟩ : ∃ τ2, τ2 = rwF n size most wide p turn (some (nI (r + 1))) (some (.ref h.length)) row k := ⟨_, rfl⟩
  rw [← hτ2] at S1
  have w0' : ∀ h, eVar 0 τ2 h = .ok (.ref n) h := fun h => by rw [hτ2]; rfl
  have w1' : ∀ h, eVar 1 τ2 h = .ok (nI size) h := fun h => by rw [hτ2]; rfl
  have w6 : eVar 6 τ2 h2 = .ok (nI (r + 1)) h2 := by rw [hτ2]; rfl
  have C := test_ok ((op_ok (b := TL.bEq) w6 (rfl : eK (.int 1) τ2 h2 = .ok (.int 1) h2)).trans (hEq _ _ h2))
  by_cases q : r = 0
  · subst q
    rw [decide_eq_true (by omega)] at C
    obtain ⟨r3, o3, e3, lt3, io3⟩ := draw_ok (k := 4) I2 (by omega) (by omega)
    have D3 := (call_ok (b := m_law_draw) (cons_ok (w0' h2) (cons_ok (rfl : eK (.int 4) τ2 h2 = .ok (.int 4) h2) (rfl : aNil τ2 h2 = .ok [] h2)))).trans e3
    have E3 := test_ok ((op_ok (b := TL.bGt) D3 (rfl : eK (.int 0) τ2 (h2.set n o3) = .ok (.int 0) (h2.set n o3))).trans (hGt _ _ _))
    have nn : n ≠ h.length := by have := I.lt; omega
    have q3 : (h2.set n o3)[h.length]? = some (.lst ((List.range size).map nI)) := by rw [List.getElem?_set_ne nn]; exact q2
    have BB : TL.bAnd (bTest (eOp TL.bEq (eVar 6) (eK (.int 1)))) (bTest (eOp TL.bGt (eCall m_law_draw (aCons (eVar 0) (aCons (eK (.int 4)) aNil))) (eK (.int 0)))) τ2 h2 = .ok (decide ((0 : Int) < (r3 : Nat))) (h2.set n o3) := by
      unfold TL.bAnd
      rw [C]
      exact E3
    by_cases z : r3 = 0
    · rw [decide_eq_false (by omega)] at BB
      refine ⟨1, h2.set n o3, (seq_nx S1).trans ((if_f BB).trans (by rw [hτ2]; rfl)), by omega, by omega, by omega, I2.draw io3, q3, sm2.trans .draw, by rw [List.length_set]; exact l2⟩
    · rw [decide_eq_true (by omega)] at BB
      have F : eCall fMin2 (aCons (eK (.int 2)) (aCons (eVar 1) aNil)) τ2 (h2.set n o3) = .ok (nI (min 2 size)) (h2.set n o3) := (call_ok (b := fMin2) (cons_ok (rfl : eK (.int 2) τ2 (h2.set n o3) = .ok (nI 2) (h2.set n o3)) (cons_ok (w1' _) rfl))).trans (min2n 2 size _)
      refine ⟨min 2 size, h2.set n o3, (seq_nx S1).trans ((if_t BB).trans ((set_ok (i := 6) F).trans (by rw [hτ2]; rfl))), by omega, by omega, by omega, I2.draw io3, q3, sm2.trans .draw, by rw [List.length_set]; exact l2⟩
  · rw [decide_eq_false (by omega)] at C
    have BB : TL.bAnd (bTest (eOp TL.bEq (eVar 6) (eK (.int 1)))) (bTest (eOp TL.bGt (eCall m_law_draw (aCons (eVar 0) (aCons (eK (.int 4)) aNil))) (eK (.int 0)))) τ2 h2 = .ok false h2 := by
      unfold TL.bAnd
      rw [C]
    refine ⟨r + 1, h2, (seq_nx S1).trans ((if_f BB).trans (by rw [hτ2]; rfl)), by omega, by omega, by omega, I2, q2, sm2, l2⟩
theorem rwB_ok {h : VH} (I : Iv n h) (s0 : 0 < size) (s1 : size ≤ 30) (w0 : 0 < wide) (w1 : wide ≤ 1000) (ne : p ≠ n) {fs : List (List Nat)} (hp : h[p]? = some (.lst (fs.map lineT))) (lf : fs.length ≤ 1000) (D : Drawn size wide fs) (turn cnt left row k : Option T) :
    ∃ (fs' : List (List Nat)) (h' : VH) (b6 b7 b8 b9 : Option T), rwB (rwF n size most wide p turn cnt left row k) h = .nx (rwF n size most wide p turn b6 b7 b8 b9) h' ∧ Iv n h' ∧ h'[p]? = some (.lst (fs'.map lineT)) ∧ fs'.length ≤ fs.length + 1 ∧ Drawn size wide fs' ∧ h.length ≤ h'.length ∧ (∀ x, x < h.length → x ≠ n → x ≠ p → h'[x]? = h[x]?) := by
  have pl : p < h.length := (List.getElem?_eq_some_iff.mp hp).1
  obtain ⟨c, h1, S12, c0, c1, c2, I1, q1, sm1, l1⟩ := rwA12_ok (p := p) (most := most) I s0 s1 w0 w1 turn cnt left row k
  have nq : h.length ≠ n := by have := I.lt; omega
  obtain ⟨ps, h2, z, pl2, nd, lt, I2, sm2, l2⟩ := pops_ok (K := c) (i0 := 0) (iq := 7) (ik := 9) (ic := 6) (τ := rwF n size most wide p turn (some (nI c)) (some (.ref h.length)) row k) I1 nq (by omega) c1 q1 rfl (fun t h => rfl) (fun t h => rfl)
  have hp2 : h2[p]? = some (.lst (fs.map lineT)) := (sm2 p ne (by omega)).trans ((sm1.2 p pl ne).trans hp)
  have S3 : rwA3 (rwF n size most wide p turn (some (nI c)) (some (.ref h.length)) row k) h1 = .nx (rwF n size most wide p turn (some (nI c)) (some (.ref h.length)) (some (lineT (srt ps))) k) h2 := by
    have C : mCall fSorted (aCons (eL (mLc (iRange1 (aCons (eVar 6) aNil)) [9] (mgName 9) bYes (eMt "list" mPopAt (eVar 7) (aCons (eCall m_law_draw (aCons (eVar 0) (aCons (eCall fLen (aCons (eVar 7) aNil)) aNil))) aNil)))) aNil) (rwF n size most wide p turn (some (nI c)) (some (.ref h.length)) row k) h1 = .ok ((srt ps).map nI) h2 := by
      unfold mCall
      rw [cons_ok (eL_ok z) rfl]
      exact sorted_ints rfl
    exact (set_ok (i := 8) ((call_ok (b := fTuple) (cons_ok (eL_ok C) rfl)).trans (rfl : fTuple [.lst ((srt ps).map nI)] h2 = .ok (lineT (srt ps)) h2))).trans rfl
  have Ln : Line size (srt ps) := ⟨fun e => by have := srt_len ps; rw [e] at this; simp at this; omega, srt_asc nd, fun x hx => lt x (srt_mem.mp hx)⟩
  have N := test_ok ((op_ok (b := TL.bNin) (rfl : eVar 8 (rwF n size most wide p turn (some (nI c)) (some (.ref h.length)) (some (lineT (srt ps))) k) h2 = .ok (lineT (srt ps)) h2) (rfl : eVar 4 _ h2 = .ok (.ref p) h2)).trans (nin_heap hp2 (srt ps)))
  have front : ∀ {o : Out}, rwA4 (rwF n size most wide p turn (some (nI c)) (some (.ref h.length)) (some (lineT (srt ps))) k) h2 = o → rwB (rwF n size most wide p turn cnt left row k) h = o := fun {o} e => by
    have S12' := S12
    unfold sSeq at S12'
    unfold rwB
    unfold sSeq
    cases hA : rwA1 (rwF n size most wide p turn cnt left row k) h with
    | nx τa ha =>
      rw [hA] at S12'
      simp only at S12' ⊢
      rw [S12']
      simp only
      rw [S3]
      exact e
    | rt t h => rw [hA] at S12'; cases S12'
    | bk τ h => rw [hA] at S12'; cases S12'
    | ct τ h => rw [hA] at S12'; cases S12'
    | bad => rw [hA] at S12'; cases S12'
  have rest : ∀ x, x < h.length → x ≠ n → x ≠ p → h2[x]? = h[x]? := fun x hx x1 _ => (sm2 x x1 (by omega)).trans (sm1.2 x hx x1)
  by_cases q : srt ps ∈ fs
  · rw [decide_eq_true q] at N
    exact ⟨fs, h2, _, _, _, _, front ((if_f N).trans rfl), I2, hp2, by omega, D, by omega, rest⟩
  · rw [decide_eq_false q] at N
    have A := app_ok (f := eVar 4) (g := eVar 8) (τ := rwF n size most wide p turn (some (nI c)) (some (.ref h.length)) (some (lineT (srt ps))) k) hp2 (by rw [List.length_map]; omega) rfl (rfl : eVar 8 _ h2 = .ok (lineT (srt ps)) h2)
    have em : fs.map lineT ++ [lineT (srt ps)] = (fs ++ [srt ps]).map lineT := by rw [List.map_append]; rfl
    rw [em] at A
    have pl3 : p < h2.length := by omega
    refine ⟨fs ++ [srt ps], h2.set p (.lst ((fs ++ [srt ps]).map lineT)), _, _, _, _, front ((if_t N).trans A), I2.put ne (fun m => rows_low _ m), List.getElem?_set_self pl3, by rw [List.length_append]; simp, ⟨fun l hl => ?_, fun l hl => ?_, ?_⟩, by rw [List.length_set]; omega, fun x hx x1 x2 => (List.getElem?_set_ne (Ne.symm x2)).trans (rest x hx x1 x2)⟩
    · rcases List.mem_append.mp hl with y | y
      · exact D.line l y
      · rw [List.mem_singleton.mp y]; exact Ln
    · rcases List.mem_append.mp hl with y | y
      · exact D.sh l y
      · rw [List.mem_singleton.mp y, srt_len]; omega
    · rw [List.nodup_append]
      exact ⟨D.nd, by simp, fun a ha b hb e => q (by rw [← List.mem_singleton.mp hb, ← e]; exact ha)⟩
theorem rows_ok {h : VH} (I : Iv n h) (s0 : 0 < size) (s1 : size ≤ 30) (m1 : most ≤ 30) (w0 : 0 < wide) (w1 : wide ≤ 1000) :
    ∃ (rows : List (List Nat)) (h' : VH), m_law_rows [.ref n, nI size, nI most, nI wide] h = .ok (rowsLT rows) h' ∧ Iv n h' ∧ Rows size rows ∧ (∀ l ∈ rows, l.length ≤ max wide 2) ∧ rows.length ≤ most ∧ Same n h h' := by
  have nn : h.length ≠ n := by have := I.lt; omega
  have S1 : sSet 4 (eH (aLim aNil)) (startT 10 [.ref n, nI size, nI most, nI wide]) h = .nx (rwF n size most wide h.length none none none none none) (h ++ [.lst []]) := rfl
  have I1 : Iv n (h ++ [VO.lst []]) := I.app fun m => rfl
  obtain ⟨r, o, e, lt, io⟩ := draw_ok (k := ((most : Nat) : Int) + 1) I1 (by omega) (by omega)
  have D := (call_ok (b := m_law_draw) (τ := rwF n size most wide h.length none none none none none) (h := h ++ [VO.lst []]) (cons_ok (rfl : eVar 0 _ _ = .ok (.ref n) _) (cons_ok ((op_ok (b := TL.bAdd) (rfl : eVar 2 _ _ = .ok (nI most) _) (rfl : eK (.int 1) _ _ = .ok (.int 1) _)).trans (hAdd _ _ _)) (rfl : aNil _ _ = .ok [] _)))).trans e
  have mi := rngk (K := r) (cons_ok D (rfl : aNil _ _ = .ok [] _)) (by omega)
  obtain ⟨h1, e1⟩ : ∃ h1, h1 = (h ++ [VO.lst []]).set n o := ⟨_, rfl⟩
  have I1' := I1.draw io
  rw [← e1] at mi I1'
  have l1 : h1.length = h.length + 1 := by rw [e1, List.length_set, List.length_append]; rfl
  have hp1 : h1[h.length]? = some (.lst []) := by rw [e1, List.getElem?_set_ne (Ne.symm nn)]; simp
  have sm1 : Same n h h1 := by rw [e1]; exact Same.trans .app .draw
  obtain ⟨τ', h', z, fs, b5, b6, b7, b8, b9, rfl, I', hp', lf, Dr, ll, sm⟩ := sFor_inv (mi := rwM) (g := mgName 5) (body := rwB) (τ := rwF n size most wide h.length none none none none none) (h := h ++ [VO.lst []]) (h1 := h1) (rd := fun _ => some (rangeT 0 r)) (ts := rangeT 0 r)
    (fun i τ h' => ∃ (fs : List (List Nat)) (b5 b6 b7 b8 b9 : Option T), τ = rwF n size most wide h.length b5 b6 b7 b8 b9 ∧ Iv n h' ∧ h'[h.length]? = some (.lst (fs.map lineT)) ∧ fs.length ≤ i ∧ Drawn size wide fs ∧ h.length ≤ h'.length ∧ (∀ x, x < h.length → x ≠ n → h'[x]? = h[x]?)) mi
    ⟨[], none, none, none, none, none, rfl, I1', hp1, Nat.le_refl _, ⟨(fun _ hl => by cases hl), (fun _ hl => by cases hl), List.nodup_nil⟩, by omega, sm1.2⟩ (fun _ _ _ _ => rfl) (fun i hi τ h' J => by
      obtain ⟨fs, b5, b6, b7, b8, b9, rfl, I', hp', lf, Dr, ll, sm⟩ := J
      rw [range_len] at hi
      obtain ⟨fs2, h2, c6, c7, c8, c9, e2, I2, hp2, lf2, D2, ll2, sm2⟩ := rwB_ok (most := most) I' s0 s1 w0 w1 nn hp' (by omega) Dr (some (rangeT 0 r)[i]) b6 b7 b8 b9
      exact ⟨rwF n size most wide h.length (some (rangeT 0 r)[i]) b6 b7 b8 b9, h', _, h2, rfl, .inl e2, fs2, _, _, _, _, _, rfl, I2, hp2, by omega, D2, by omega, fun x hx x1 => (sm2 x (by omega) x1 (by omega)).trans (sm x hx x1)⟩)
  rw [range_len] at lf
  have so : mCall fSorted (aCons (eVar 4) aNil) (rwF n size most wide h.length b5 b6 b7 b8 b9) h' = .ok ((srtR fs).map lineT) h' := by
    unfold mCall
    rw [cons_ok (rfl : eVar 4 _ h' = .ok (.ref h.length) h') rfl]
    exact sorted_rows (by simp [TL.listOf, hp']) fun r hr => (Dr.line r hr).ne
  refine ⟨srtR fs, h', ?_, I', ⟨s0, s1, by rw [srtR_len]; omega, fun l hl => Dr.line l (srtR_mem.mp hl), srtR_asc Dr.nd⟩, fun l hl => Dr.sh l (srtR_mem.mp hl), by rw [srtR_len]; omega, ll, sm⟩
  show defM 10 4 s_law_rows _ _ = _
  rw [rw_eq]
  exact defM_rt rfl ((seq_nx S1).trans ((seq_nx z).trans (ret_ok (eL_ok so))))
end
end BD

set_option Elab.async false
set_option linter.all false
set_option maxRecDepth 100000
set_option maxHeartbeats 4000000
namespace BD
open PySem L2 TL K13
/-! ### sorted(set(..)) of rows of one length -/
theorem lt_of_code {B : Int} : ∀ {a b : List Int}, a.length = b.length → TS.Bd B a → TS.Bd B b → TS.code B a < TS.code B b → a < b
  | [], [], _, _, _, h => by simp [TS.code] at h
  | [], _ :: _, e, _, _, _ => by cases e
  | _ :: _, [], e, _, _, _ => by cases e
  | d :: a, e :: b, hl, ha, hb, h => by
    have hl' : a.length = b.length := by simpa using hl
    rw [List.cons_lt_cons_iff]
    rcases Int.lt_trichotomy d e with q | q | q
    · exact .inl q
    · subst q
      refine .inr ⟨rfl, lt_of_code hl' ha.tail hb.tail ?_⟩
      unfold TS.code at h
      rw [hl'] at h
      omega
    · have := TS.code_lt hl'.symm hb.tail ha.tail q
      omega
abbrev nZ (r : List Nat) : List Int := r.map fun c : Nat => (c : Int)
theorem tupI_line (r : List Nat) : tupI (lineT r) = some (nZ r) := ints_of r
theorem dedup_len : ∀ l : List (List Int), (dedupL l).length ≤ l.length
  | [] => Nat.le_refl _
  | x :: l => by
    have := dedup_len l
    unfold dedupL
    split
    · simp only [List.length_cons]; omega
    · simp only [List.length_cons]; omega
theorem sortset_ok {f : ME} {τ : TS_} {h h1 : VH} {rs : List (List Nat)} {d : Nat} (hf : f τ h = .ok (.lst (rs.map lineT)) h1) (few : rs.length < 64) (d1 : 1 ≤ d) (hd : ∀ r ∈ rs, r.length = d) (lt : ∀ r ∈ rs, ∀ c ∈ r, c < 1000) :
    ∃ R : List (List Nat), mSortSet f τ h = .ok (R.map lineT) h1 ∧ (∀ r, r ∈ R ↔ r ∈ rs) ∧ R.Pairwise (fun a b => W.dataLt (lnD a) (lnD b) = true) ∧ R.length ≤ rs.length := by
  have e1 : (rs.map lineT).mapM tupI = some (rs.map nZ) := by
    rw [List.mapM_map]
    exact mapM_some fun r _ => tupI_line r
  have hbd : ∀ n ∈ rs.map nZ, n.length = d ∧ TS.Bd BB n := fun n hn => by
    obtain ⟨r, hr, rfl⟩ := List.mem_map.mp hn
    refine ⟨by rw [List.length_map]; exact hd r hr, fun m hm => ?_⟩
    obtain ⟨c, hc, rfl⟩ := List.mem_map.mp hm
    have := lt r hr c hc
    show (0 : Int) ≤ (c : Nat) ∧ ((c : Nat) : Int) < 1000000
    omega
  have ok : rowsOk (rs.map nZ) = true := by
    unfold rowsOk
    have hh : ((rs.map nZ).headD [0]).length = (if rs = [] then 1 else d) := by
      cases rs with
      | nil => rfl
      | cons r rs =>
        rw [if_neg (by simp)]
        exact (hbd _ List.mem_cons_self).1
    simp only [Bool.and_eq_true, decide_eq_true_eq, List.all_eq_true, List.length_map]
    refine ⟨few, ?_, fun n hn => ⟨?_, fun m hm => ?_⟩⟩
    · rw [hh]; split <;> omega
    · rw [hh, if_neg (by rintro rfl; cases hn)]
      exact (hbd n hn).1
    · exact (hbd n hn).2 m hm
  have ms : ∀ x, x ∈ sortRows (rs.map nZ) ↔ x ∈ rs.map nZ := fun x => by unfold sortRows; rw [List.mem_mergeSort, mem_dedup]
  have nd : (sortRows (rs.map nZ)).Nodup := by
    unfold sortRows
    exact (List.mergeSort_perm _ _).nodup_iff.mpr nodup_dedup
  have st := strict_of (fun n hn => hbd n ((ms n).mp hn)) nd (codeLe_pw _)
  have back : ∀ x ∈ sortRows (rs.map nZ), nZ (x.map Int.toNat) = x := fun x hx => by
    obtain ⟨r, hr, rfl⟩ := List.mem_map.mp ((ms x).mp hx)
    unfold nZ
    rw [List.map_map, List.map_map]
    refine List.map_congr_left fun c _ => ?_
    show (((c : Nat) : Int).toNat : Int) = _
    omega
  refine ⟨(sortRows (rs.map nZ)).map (·.map Int.toNat), ?_, fun r => ?_, ?_, ?_⟩
  · unfold mSortSet
    rw [hf]
    simp only [TL.listOf, e1, ok, if_true]
    rw [List.map_map]
    refine congrArg (fun l => Res.ok l h1) (List.map_congr_left fun x hx => ?_)
    show rowT' x = lineT (x.map Int.toNat)
    have b := back x hx
    unfold rowT' lineT
    conv => lhs; rw [← b]
    rw [List.map_map]
    rfl
  · rw [List.mem_map]
    constructor
    · rintro ⟨x, hx, rfl⟩
      obtain ⟨s, hs, e⟩ := List.mem_map.mp ((ms x).mp hx)
      have : x.map Int.toNat = s := by
        rw [← e]
        unfold nZ
        rw [List.map_map]
        conv => rhs; rw [← List.map_id s]
        exact List.map_congr_left fun c _ => by show ((c : Nat) : Int).toNat = c; omega
      rw [this]
      exact hs
    · intro hr
      refine ⟨nZ r, (ms _).mpr (List.mem_map.mpr ⟨r, hr, rfl⟩), ?_⟩
      unfold nZ
      rw [List.map_map]
      conv => rhs; rw [← List.map_id r]
      exact List.map_congr_left fun c _ => by show ((c : Nat) : Int).toNat = c; omega
  · rw [List.pairwise_map]
    refine List.Pairwise.imp_of_mem (fun {a b} ha hb z => ?_) st
    rw [rowLt_eq]
    refine decide_eq_true ?_
    show nZ (a.map Int.toNat) < nZ (b.map Int.toNat)
    rw [back a ha, back b hb]
    have h1 := hbd a ((ms a).mp ha)
    have h2 := hbd b ((ms b).mp hb)
    exact lt_of_code (h1.1.trans h2.1.symm) h1.2 h2.2 z
  · rw [List.length_map]
    unfold sortRows
    rw [List.length_mergeSort]
    have := dedup_len (rs.map nZ)
    rw [List.length_map] at this
    exact this
/-! ### comprehensions over a range of what does not change -/
theorem rgc_ok {g : MA} {e : ME} {j K : Nat} {τ : TS_} {h : VH} (hm : iRange1 g τ h = .ok (fun _ => some (rangeT 0 K)) h) (hK : K ≤ 100000) (f : Nat → T) (he : ∀ i, i < K → e ((wipeT τ [j]).set j (some (nI i))) h = .ok (f i) h) :
    eL (mLc (iRange1 g) [j] (mgName j) bYes e) τ h = .ok (.lst ((List.range K).map f)) h := by
  have z := mLc_map (mi := iRange1 g) (ws := [j]) (g := mgName j) (e := e) (τ := τ) (h := h) (ts := rangeT 0 K) hm rfl (by rw [range_len]; omega) (fun t => match t with | .int i => f i.toNat | t => t) (fun t ht => by
    obtain ⟨i, hi, rfl⟩ := List.getElem_of_mem ht
    obtain ⟨hi2, ei⟩ := range_at hi
    rw [ei, Int.zero_add]
    exact ⟨_, rfl, he i hi2⟩)
  rw [range_nI, List.map_map] at z
  exact eL_ok z
theorem mul_nI (a b : Nat) (hb : b < 1000) (h : VH) : TL.bMul (nI a) (nI b) h = .ok (nI (a * b)) h := by
  rw [hMul (by omega), ← Int.natCast_mul]
theorem add_nI (a b : Nat) (h : VH) : TL.bAdd (nI a) (nI b) h = .ok (nI (a + b)) h := by
  rw [hAdd, ← Int.natCast_add]
theorem tupLine {f : ME} {τ : TS_} {h : VH} {l : List Nat} (e : f τ h = .ok (.lst (l.map nI)) h) : eCall fTuple (aCons f aNil) τ h = .ok (lineT l) h := (call_ok (b := fTuple) (cons_ok e rfl)).trans rfl
end BD

set_option Elab.async false
set_option linter.all false
set_option maxRecDepth 100000
set_option maxHeartbeats 4000000
namespace BD
open PySem L2 TL K13
def bd0 : MS := (sPar 1 2 (aCons (eCall m_law_draw (aCons (eVar 0) (aCons (eK (.int 6)) aNil))) (aCons (eOp TL.bAdd (eK (.int 2)) (eCall m_law_draw (aCons (eVar 0) (aCons (eK (.int 8)) aNil)))) aNil)))
def bdA0 : MS := (sSet 3 (eOp TL.bAdd (eK (.int 2)) (eCall m_law_draw (aCons (eVar 0) (aCons (eK (.int 2)) aNil)))))
def bdA1 : MS := (sSet 4 (eL (mLc (iRange1 (aCons (eVar 3) aNil)) [5] (mgName 5) bYes (eCall fTuple (aCons (eL (mLc (iRange1 (aCons (eVar 3) aNil)) [6] (mgName 6) bYes (eOp TL.bAdd (eOp TL.bMul (eVar 3) (eVar 5)) (eVar 6)))) aNil)))))
def bdA2 : MS := (sSet 4 (eOp TL.bAdd (eVar 4) (eL (mLc (iRange1 (aCons (eVar 3) aNil)) [5] (mgName 5) bYes (eCall fTuple (aCons (eL (mLc (iRange1 (aCons (eVar 3) aNil)) [6] (mgName 6) bYes (eOp TL.bAdd (eOp TL.bMul (eVar 3) (eVar 6)) (eVar 5)))) aNil))))))
def bdA3 : MS := (sSet 4 (eOp TL.bAdd (eVar 4) (eL (aLim (aCons (eCall fTuple (aCons (eL (mLc (iRange1 (aCons (eVar 3) aNil)) [6] (mgName 6) bYes (eOp TL.bAdd (eOp TL.bMul (eVar 3) (eVar 6)) (eVar 6)))) aNil)) aNil)))))
def bdS : ME := (eSl (eVar 4) oNo (oSome (eOp TL.bSub (eCall fLen (aCons (eVar 4) aNil)) (eCall m_law_draw (aCons (eVar 0) (aCons (eK (.int 4)) aNil))))))
def bdA4 : MS := (sRet (eTup (aCons (eOp TL.bMul (eVar 3) (eVar 3)) (aCons (eL (mSortSet bdS)) aNil))))
def bdB0 : MS := (sSet 7 (eOp TL.bAdd (eK (.int 2)) (eCall m_law_draw (aCons (eVar 0) (aCons (eK (.int 2)) aNil)))))
def bdB1 : MS := (sRet (eTup (aCons (eVar 2) (aCons (eL (mLc (iRange1 (aCons (eOp TL.bAdd (eOp TL.bSub (eVar 2) (eVar 7)) (eK (.int 1))) aNil)) [5] (mgName 5) bYes (eCall fTuple (aCons (eL (mRg2 (eVar 5) (eOp TL.bAdd (eVar 5) (eVar 7)))) aNil)))) aNil))))
def bdC : MS := (sRet (eTup (aCons (eVar 2) (aCons (eCall m_law_rows (aCons (eVar 0) (aCons (eVar 2) (aCons (eK (.int 7)) (aCons (eIf (bTest (eOp TL.bLt (eVar 1) (eK (.int 4)))) (eK (.int 5)) (eK (.int 3))) aNil))))) aNil))))
theorem bd_eq : s_law_board = sSeq bd0 (sSeq (sIf (bTest (eOp TL.bEq (eVar 1) (eK (.int 0)))) (sSeq bdA0 (sSeq bdA1 (sSeq bdA2 (sSeq bdA3 bdA4)))) sNil) (sSeq (sIf (bTest (eOp TL.bEq (eVar 1) (eK (.int 1)))) (sSeq bdB0 bdB1) sNil) bdC)) := rfl
abbrev bdF (n : Nat) (way size side found k j span : Option T) : TS_ := [some (.ref n), way, size, side, found, k, j, span]
def sqA (s : Nat) : List (List Nat) := (List.range s).map fun k => (List.range s).map fun j => s * k + j
def sqB (s : Nat) : List (List Nat) := (List.range s).map fun k => (List.range s).map fun j => s * j + k
def sqC (s : Nat) : List Nat := (List.range s).map fun j => s * j + j
def sq (s : Nat) : List (List Nat) := sqA s ++ sqB s ++ [sqC s]
theorem sq_facts : ∀ s : Fin 2, (sq (s + 2)).length = 2 * (s + 2) + 1 ∧ ∀ r ∈ sq (s + 2), r.length = s.val + 2 ∧ r.Pairwise (· < ·) ∧ ∀ c ∈ r, c < (s.val + 2) * (s.val + 2) := by decide
theorem addL {a b : List (List Nat)} (h : VH) (hl : a.length + b.length ≤ 1000) : TL.bAdd (.lst (a.map lineT)) (.lst (b.map lineT)) h = .ok (.lst ((a ++ b).map lineT)) h := by
  simp only [TL.bAdd, TL.listOf, List.length_map]
  rw [if_pos (by omega), List.map_append]
theorem cut_take {ts : List T} {k : Nat} (hk : k ≤ ts.length) : cutT ts none (some (k : Int)) = ts.take k := by
  unfold cutT
  rw [HT.sIx_nat, Nat.min_eq_left hk]
  rfl
theorem dK {n r : Nat} {k : Int} {τ : TS_} {h h1 : VH} (v0 : eVar 0 τ h = .ok (.ref n) h) (e : m_law_draw [.ref n, .int k] h = .ok (.int (r : Nat)) h1) : eCall m_law_draw (aCons (eVar 0) (aCons (eK (.int k)) aNil)) τ h = .ok (.int (r : Nat)) h1 :=
  (call_ok (b := m_law_draw) (cons_ok v0 (cons_ok (rfl : eK (.int k) τ h = .ok (.int k) h) (rfl : aNil τ h = .ok [] h)))).trans e
section
variable {n : Nat}
theorem bdA_ok {h : VH} (I : Iv n h) (way size side found k j span : Option T) : ∃ (sz : Nat) (rows : List (List Nat)) (h' : VH), sSeq bdA0 (sSeq bdA1 (sSeq bdA2 (sSeq bdA3 bdA4))) (bdF n way size side found k j span) h = .rt (.tup [nI sz, rowsLT rows]) h' ∧ Iv n h' ∧ Rows sz rows ∧ (∀ l ∈ rows, l.length ≤ 5) ∧ 2 ≤ sz ∧ sz ≤ 9 ∧ rows.length ≤ 8 ∧ Same n h h' := by
  obtain ⟨r, o, e, lt, io⟩ := draw_ok (k := 2) I (by omega) (by omega)
  obtain ⟨s, hs⟩ : ∃ s, s = r + 2 := ⟨_, rfl⟩
  obtain ⟨f1, f2⟩ := sq_facts ⟨r, by omega⟩
  have hs2 : (↑(⟨r, by omega⟩ : Fin 2) : Nat) + 2 = s := hs.symm
  simp only [hs2] at f1 f2
  obtain ⟨h1, e1⟩ : ∃ h1, h1 = h.set n o := ⟨_, rfl⟩
  have I1 := I.draw io
  have sm1 : Same n h h1 := by rw [e1]; exact .draw
  rw [← e1] at e I1
  have S0 : bdA0 (bdF n way size side found k j span) h = .nx (bdF n way size (some (nI s)) found k j span) h1 := by
    have A := (op_ok (b := TL.bAdd) (rfl : eK (.int 2) (bdF n way size side found k j span) h = .ok (.int 2) h) (dK rfl e)).trans (hAdd _ _ _)
    rw [show (2 : Int) + (r : Nat) = ((s : Nat) : Int) by omega] at A
    exact (set_ok (i := 3) A).trans rfl
  have rg : ∀ (a b c : Option T), iRange1 (aCons (eVar 3) aNil) (bdF n way size (some (nI s)) a b c span) h1 = .ok (fun _ => some (rangeT 0 s)) h1 := fun a b c => rngk (cons_ok rfl rfl) (by omega)
  have inn : ∀ (a b c : Option T) (E : ME) (f : Nat → Nat), (∀ i, i < s → E (bdF n way size (some (nI s)) a b (some (nI i)) span) h1 = .ok (nI (f i)) h1) → eCall fTuple (aCons (eL (mLc (iRange1 (aCons (eVar 3) aNil)) [6] (mgName 6) bYes E)) aNil) (bdF n way size (some (nI s)) a b c span) h1 = .ok (lineT ((List.range s).map f)) h1 := fun a b c E f hE => by
    have z := rgc_ok (e := E) (j := 6) (rg a b c) (by omega) (fun i => nI (f i)) (fun i hi => hE i hi)
    refine tupLine ?_
    rw [z, List.map_map]
    rfl
  have S1 : bdA1 (bdF n way size (some (nI s)) found k j span) h1 = .nx (bdF n way size (some (nI s)) (some (.lst ((sqA s).map lineT))) k j span) h1 := by
    have z := rgc_ok (e := eCall fTuple (aCons (eL (mLc (iRange1 (aCons (eVar 3) aNil)) [6] (mgName 6) bYes (eOp TL.bAdd (eOp TL.bMul (eVar 3) (eVar 5)) (eVar 6)))) aNil)) (j := 5) (rg found k j) (by omega) (fun i => lineT ((List.range s).map fun jj => s * i + jj)) (fun i hi => inn found (some (nI i)) j _ _ (fun jj hj => (op_ok (b := TL.bAdd) ((op_ok (b := TL.bMul) (rfl : eVar 3 _ h1 = .ok (nI s) h1) (rfl : eVar 5 _ h1 = .ok (nI i) h1)).trans (mul_nI s i (by omega) h1)) (rfl : eVar 6 _ h1 = .ok (nI jj) h1)).trans (add_nI _ _ h1)))
    refine (set_ok (i := 4) z).trans ?_
    unfold sqA
    rw [List.map_map]
    rfl
  have S2 : bdA2 (bdF n way size (some (nI s)) (some (.lst ((sqA s).map lineT))) k j span) h1 = .nx (bdF n way size (some (nI s)) (some (.lst ((sqA s ++ sqB s).map lineT))) k j span) h1 := by
    have z := rgc_ok (e := eCall fTuple (aCons (eL (mLc (iRange1 (aCons (eVar 3) aNil)) [6] (mgName 6) bYes (eOp TL.bAdd (eOp TL.bMul (eVar 3) (eVar 6)) (eVar 5)))) aNil)) (j := 5) (rg (some (.lst ((sqA s).map lineT))) k j) (by omega) (fun i => lineT ((List.range s).map fun jj => s * jj + i)) (fun i hi => inn (some (.lst ((sqA s).map lineT))) (some (nI i)) j _ _ (fun jj hj => (op_ok (b := TL.bAdd) ((op_ok (b := TL.bMul) (rfl : eVar 3 _ h1 = .ok (nI s) h1) (rfl : eVar 6 _ h1 = .ok (nI jj) h1)).trans (mul_nI s jj (by omega) h1)) (rfl : eVar 5 _ h1 = .ok (nI i) h1)).trans (add_nI _ _ h1)))
    have e2 : (List.range s).map (fun i => lineT ((List.range s).map fun jj => s * jj + i)) = (sqB s).map lineT := by unfold sqB; rw [List.map_map]; rfl
    rw [e2] at z
    exact (set_ok (i := 4) ((op_ok (b := TL.bAdd) (rfl : eVar 4 _ h1 = .ok (.lst ((sqA s).map lineT)) h1) z).trans (addL h1 (by unfold sqA sqB; simp; omega)))).trans rfl
  have S3 : bdA3 (bdF n way size (some (nI s)) (some (.lst ((sqA s ++ sqB s).map lineT))) k j span) h1 = .nx (bdF n way size (some (nI s)) (some (.lst ((sq s).map lineT))) k j span) h1 := by
    have z := inn (some (.lst ((sqA s ++ sqB s).map lineT))) k j (eOp TL.bAdd (eOp TL.bMul (eVar 3) (eVar 6)) (eVar 6)) (fun jj => s * jj + jj) (fun jj hj => (op_ok (b := TL.bAdd) ((op_ok (b := TL.bMul) (rfl : eVar 3 _ h1 = .ok (nI s) h1) (rfl : eVar 6 _ h1 = .ok (nI jj) h1)).trans (mul_nI s jj (by omega) h1)) (rfl : eVar 6 _ h1 = .ok (nI jj) h1)).trans (add_nI _ _ h1))
    have y : eL (aLim (aCons (eCall fTuple (aCons (eL (mLc (iRange1 (aCons (eVar 3) aNil)) [6] (mgName 6) bYes (eOp TL.bAdd (eOp TL.bMul (eVar 3) (eVar 6)) (eVar 6)))) aNil)) aNil)) (bdF n way size (some (nI s)) (some (.lst ((sqA s ++ sqB s).map lineT))) k j span) h1 = .ok (.lst ([sqC s].map lineT)) h1 := by
      refine eL_ok ?_
      unfold aLim
      rw [cons_ok z (rfl : aNil _ h1 = .ok [] h1)]
      rfl
    exact (set_ok (i := 4) ((op_ok (b := TL.bAdd) (rfl : eVar 4 _ h1 = .ok (.lst ((sqA s ++ sqB s).map lineT)) h1) y).trans (addL h1 (by unfold sqA sqB; simp; omega)))).trans rfl
  obtain ⟨τ, hτ⟩ : ∃ τ, τ = bdF n way size (some (nI s)) (some (.lst ((sq s).map lineT))) k j span := ⟨_, rfl⟩
  rw [← hτ] at S3
  have v4 : eVar 4 τ h1 = .ok (.lst ((sq s).map lineT)) h1 := by rw [hτ]; rfl
  have v3 : eVar 3 τ h1 = .ok (nI s) h1 := by rw [hτ]; rfl
  have v0 : eVar 0 τ h1 = .ok (.ref n) h1 := by rw [hτ]; rfl
  obtain ⟨r2, o2, e2, lt2, io2⟩ := draw_ok (k := 4) I1 (by omega) (by omega)
  have Ln := hLenL v4
  rw [List.length_map, f1] at Ln
  have D2 := (call_ok (b := m_law_draw) (cons_ok v0 (cons_ok (rfl : eK (.int 4) τ h1 = .ok (.int 4) h1) (rfl : aNil τ h1 = .ok [] h1)))).trans e2
  have Sb := (op_ok (b := TL.bSub) Ln D2).trans (hSub _ _ _)
  obtain ⟨m, hm⟩ : ∃ m, m = 2 * s + 1 - r2 := ⟨_, rfl⟩
  rw [show ((2 * s + 1 : Nat) : Int) - (r2 : Nat) = ((m : Nat) : Int) by omega] at Sb
  have sl : bdS τ h1 = .ok (.lst (((sq s).take m).map lineT)) (h1.set n o2) := by
    have c := cut_take (ts := (sq s).map lineT) (k := m) (by rw [List.length_map, f1]; omega)
    unfold bdS eSl
    rw [v4]
    simp only [oNo, oSome, Sb, TL.bSl, TL.listOf, c, List.map_take]
  obtain ⟨R, eR, mR, pR, lR⟩ := sortset_ok (d := s) sl (by rw [List.length_take, f1]; omega) (by omega) (fun r hr => by rw [(f2 r (List.mem_of_mem_take hr)).1]) (fun r hr c hc => by
    have h3 : s * s ≤ 3 * 3 := Nat.mul_le_mul (by omega) (by omega)
    have := (f2 r (List.mem_of_mem_take hr)).2.2 c hc
    omega)
  have mul : eOp TL.bMul (eVar 3) (eVar 3) τ h1 = .ok (nI (s * s)) h1 := (op_ok (b := TL.bMul) v3 v3).trans (mul_nI s s (by omega) h1)
  have fin : bdA4 τ h1 = .rt (.tup [nI (s * s), rowsLT R]) (h1.set n o2) := by
    refine ret_ok ?_
    unfold eTup
    rw [cons_ok mul (cons_ok (eL_ok eR) (rfl : aNil τ _ = .ok [] _))]
    rfl
  have h3 : s * s ≤ 3 * 3 := Nat.mul_le_mul (by omega) (by omega)
  have h2 : 2 * 2 ≤ s * s := Nat.mul_le_mul (by omega) (by omega)
  have lm : R.length ≤ 7 := by rw [List.length_take, f1] at lR; omega
  have fr : ∀ l ∈ R, l ∈ sq s := fun l hl => List.mem_of_mem_take ((mR l).mp hl)
  refine ⟨s * s, R, h1.set n o2, (seq_nx S0).trans ((seq_nx S1).trans ((seq_nx S2).trans ((seq_nx S3).trans fin))), I1.draw io2, ⟨by omega, by omega, by omega, fun l hl => ?_, pR⟩, fun l hl => ?_, by omega, by omega, by omega, sm1.trans .draw⟩
  · obtain ⟨a, b, c⟩ := f2 l (fr l hl)
    exact ⟨(fun z => by rw [z] at a; simp at a; omega), b, fun x hx => by exact c x hx⟩
  · obtain ⟨a, b, c⟩ := f2 l (fr l hl)
    omega
theorem range_line {size k w : Nat} (hw : 0 < w) (hk : k + w ≤ size) : Line size ((List.range w).map fun i => k + i) := by
  refine ⟨fun z => ?_, ?_, fun c hc => ?_⟩
  · have := congrArg List.length z
    simp at this
    omega
  · rw [List.pairwise_map]
    exact List.pairwise_lt_range.imp fun h => by omega
  · obtain ⟨i, hi, rfl⟩ := List.mem_map.mp hc
    have := List.mem_range.mp hi
    omega
theorem bdB_ok {h : VH} (I : Iv n h) {size : Nat} (s2 : 2 ≤ size) (s9 : size ≤ 9) (way side found k j span : Option T) : ∃ (rows : List (List Nat)) (h' : VH), sSeq bdB0 bdB1 (bdF n way (some (nI size)) side found k j span) h = .rt (.tup [nI size, rowsLT rows]) h' ∧ Iv n h' ∧ Rows size rows ∧ (∀ l ∈ rows, l.length ≤ 5) ∧ rows.length ≤ 8 ∧ Same n h h' := by
  obtain ⟨r, o, e, lt, io⟩ := draw_ok (k := 2) I (by omega) (by omega)
  obtain ⟨w, hw⟩ : ∃ w, w = r + 2 := ⟨_, rfl⟩
  obtain ⟨h1, e1⟩ : ∃ h1, h1 = h.set n o := ⟨_, rfl⟩
  have I1 := I.draw io
  have sm1 : Same n h h1 := by rw [e1]; exact .draw
  rw [← e1] at e I1
  have S0 : bdB0 (bdF n way (some (nI size)) side found k j span) h = .nx (bdF n way (some (nI size)) side found k j (some (nI w))) h1 := by
    have A := (op_ok (b := TL.bAdd) (rfl : eK (.int 2) (bdF n way (some (nI size)) side found k j span) h = .ok (.int 2) h) (dK rfl e)).trans (hAdd _ _ _)
    rw [show (2 : Int) + (r : Nat) = ((w : Nat) : Int) by omega] at A
    exact (set_ok (i := 7) A).trans rfl
  obtain ⟨K, hK⟩ : ∃ K, K = size + 1 - w := ⟨_, rfl⟩
  obtain ⟨τ, hτ⟩ : ∃ τ, τ = bdF n way (some (nI size)) side found k j (some (nI w)) := ⟨_, rfl⟩
  have v2 : eVar 2 τ h1 = .ok (nI size) h1 := by rw [hτ]; rfl
  have v7 : eVar 7 τ h1 = .ok (nI w) h1 := by rw [hτ]; rfl
  have mi : iRange1 (aCons (eOp TL.bAdd (eOp TL.bSub (eVar 2) (eVar 7)) (eK (.int 1))) aNil) τ h1 = .ok (fun _ => some (rangeT 0 K)) h1 := by
    have A := (op_ok (b := TL.bAdd) ((op_ok (b := TL.bSub) v2 v7).trans (hSub _ _ h1)) (rfl : eK (.int 1) τ h1 = .ok (.int 1) h1)).trans (hAdd _ _ h1)
    rw [show ((size : Nat) : Int) - (w : Nat) + 1 = ((K : Nat) : Int) by omega] at A
    exact rngk (cons_ok A rfl) (by omega)
  have z := rgc_ok (e := eCall fTuple (aCons (eL (mRg2 (eVar 5) (eOp TL.bAdd (eVar 5) (eVar 7)))) aNil)) (j := 5) mi (by omega) (fun i => lineT ((List.range w).map fun jj => i + jj)) (fun i hi => by
    refine tupLine (eL_ok ?_)
    have u5 : eVar 5 ((wipeT τ [5]).set 5 (some (nI i))) h1 = .ok (nI i) h1 := by rw [hτ]; rfl
    have u7 : eVar 7 ((wipeT τ [5]).set 5 (some (nI i))) h1 = .ok (nI w) h1 := by rw [hτ]; rfl
    have A := (op_ok (b := TL.bAdd) u5 u7).trans (add_nI i w h1)
    unfold mRg2
    simp only [u5, A]
    have ew : (((i + w : Nat) : Int) - (i : Nat)).toNat = w := by omega
    rw [ew, if_pos ⟨⟨by omega, by omega, by omega, by omega⟩, by omega⟩]
    unfold rangeT
    rw [List.map_map]
    refine congrArg (fun l => Res.ok l h1) (List.map_congr_left fun c _ => ?_)
    show T.int ((i : Int) + (c : Int)) = T.int ((i + c : Nat) : Int)
    rw [Int.natCast_add])
  obtain ⟨rows, hrows⟩ : ∃ rows, rows = (List.range K).map fun i => (List.range w).map fun jj => i + jj := ⟨_, rfl⟩
  have er : (List.range K).map (fun i => lineT ((List.range w).map fun jj => i + jj)) = rows.map lineT := by rw [hrows, List.map_map]; rfl
  rw [er] at z
  have fin : bdB1 τ h1 = .rt (.tup [nI size, rowsLT rows]) h1 := by
    refine ret_ok ?_
    unfold eTup
    rw [cons_ok v2 (cons_ok z (rfl : aNil τ h1 = .ok [] h1))]
    rfl
  rw [hτ] at fin
  have ll : rows.length = K := by rw [hrows, List.length_map, List.length_range]
  refine ⟨rows, h1, (seq_nx S0).trans fin, I1, ⟨by omega, by omega, by omega, fun l hl => ?_, ?_⟩, fun l hl => ?_, by omega, sm1⟩
  · rw [hrows] at hl
    obtain ⟨i, hi, rfl⟩ := List.mem_map.mp hl
    have := List.mem_range.mp hi
    exact range_line (by omega) (by omega)
  · rw [hrows, List.pairwise_map]
    refine List.pairwise_lt_range.imp fun {a b} hab => ?_
    show W.dataLt (lnD _) (lnD _) = true
    rw [rowLt_eq]
    refine decide_eq_true ?_
    obtain ⟨v, hv⟩ : ∃ v, w = v + 1 := ⟨w - 1, by omega⟩
    rw [hv, List.range_succ_eq_map, List.map_cons, List.map_cons, List.map_cons, List.map_cons, List.cons_lt_cons_iff]
    exact .inl (by omega)
  · rw [hrows] at hl
    obtain ⟨i, hi, rfl⟩ := List.mem_map.mp hl
    rw [List.length_map, List.length_range]
    omega
theorem board_ok {h : VH} (I : Iv n h) : ∃ (size : Nat) (rows : List (List Nat)) (h' : VH), m_law_board [.ref n] h = .ok (.tup [nI size, rowsLT rows]) h' ∧ Iv n h' ∧ Rows size rows ∧ (∀ l ∈ rows, l.length ≤ 5) ∧ 2 ≤ size ∧ size ≤ 9 ∧ rows.length ≤ 8 ∧ Same n h h' := by
  obtain ⟨w, o, e, lw, io⟩ := draw_ok (k := 6) I (by omega) (by omega)
  have I1 := I.draw io
  have sm1 : Same n h (h.set n o) := .draw
  obtain ⟨h1, e1⟩ : ∃ h1, h1 = h.set n o := ⟨_, rfl⟩
  rw [← e1] at e I1 sm1
  obtain ⟨r, o2, e2, lr, io2⟩ := draw_ok (k := 8) I1 (by omega) (by omega)
  have I2 := I1.draw io2
  have sm2 : Same n h (h1.set n o2) := sm1.trans .draw
  obtain ⟨h2, e3⟩ : ∃ h2, h2 = h1.set n o2 := ⟨_, rfl⟩
  rw [← e3] at e2 I2 sm2
  obtain ⟨size, hs⟩ : ∃ size, size = r + 2 := ⟨_, rfl⟩
  have S0 : bd0 (startT 8 [.ref n]) h = .nx (bdF n (some (nI w)) (some (nI size)) none none none none none) h2 := by
    have A := dK (τ := startT 8 [.ref n]) rfl e
    have B := (op_ok (b := TL.bAdd) (rfl : eK (.int 2) (startT 8 [.ref n]) h1 = .ok (.int 2) h1) (dK rfl e2)).trans (hAdd _ _ _)
    rw [show (2 : Int) + (r : Nat) = ((size : Nat) : Int) by omega] at B
    unfold bd0 sPar
    rw [cons_ok A (cons_ok B (rfl : aNil _ h2 = .ok [] h2))]
    rfl
  obtain ⟨τ, hτ⟩ : ∃ τ, τ = bdF n (some (nI w)) (some (nI size)) none none none none none := ⟨_, rfl⟩
  have v1 : eVar 1 τ h2 = .ok (nI w) h2 := by rw [hτ]; rfl
  have T1 := test_ok ((op_ok (b := TL.bEq) v1 (rfl : eK (.int 0) τ h2 = .ok (.int 0) h2)).trans (hEq _ _ h2))
  have T2 := test_ok ((op_ok (b := TL.bEq) v1 (rfl : eK (.int 1) τ h2 = .ok (.int 1) h2)).trans (hEq _ _ h2))
  rw [← hτ] at S0
  have fin : ∀ {t : T} {h' : VH}, (sSeq (sIf (bTest (eOp TL.bEq (eVar 1) (eK (.int 0)))) (sSeq bdA0 (sSeq bdA1 (sSeq bdA2 (sSeq bdA3 bdA4)))) sNil) (sSeq (sIf (bTest (eOp TL.bEq (eVar 1) (eK (.int 1)))) (sSeq bdB0 bdB1) sNil) bdC)) τ h2 = .rt t h' → m_law_board [.ref n] h = .ok t h' := fun q => by
    show defM 8 1 s_law_board _ _ = _
    rw [bd_eq]
    exact defM_rt rfl ((seq_nx S0).trans q)
  by_cases q0 : w = 0
  · rw [decide_eq_true (by omega)] at T1
    obtain ⟨sz, rows, h', z, I', R, sh, z2, z9, lr, sm⟩ := bdA_ok I2 (some (nI w)) (some (nI size)) none none none none none
    rw [← hτ] at z
    exact ⟨sz, rows, h', fin (seq_rt ((if_t T1).trans z)), I', R, sh, z2, z9, lr, sm2.trans sm⟩
  · rw [decide_eq_false (by omega)] at T1
    by_cases q1 : w = 1
    · rw [decide_eq_true (by omega)] at T2
      obtain ⟨rows, h', z, I', R, sh, lr, sm⟩ := bdB_ok I2 (size := size) (by omega) (by omega) (some (nI w)) none none none none none
      rw [← hτ] at z
      exact ⟨size, rows, h', fin ((seq_nx ((if_f T1).trans rfl)).trans (seq_rt ((if_t T2).trans z))), I', R, sh, by omega, by omega, lr, sm2.trans sm⟩
    · rw [decide_eq_false (by omega)] at T2
      have v0 : eVar 0 τ h2 = .ok (.ref n) h2 := by rw [hτ]; rfl
      have v2 : eVar 2 τ h2 = .ok (nI size) h2 := by rw [hτ]; rfl
      obtain ⟨wd, w0, w5, ew⟩ : ∃ wd : Nat, 0 < wd ∧ wd ≤ 5 ∧ eIf (bTest (eOp TL.bLt (eVar 1) (eK (.int 4)))) (eK (.int 5)) (eK (.int 3)) τ h2 = .ok (nI wd) h2 := by
        have C := test_ok ((op_ok (b := TL.bLt) v1 (rfl : eK (.int 4) τ h2 = .ok (.int 4) h2)).trans (hLt _ _ h2))
        by_cases q4 : ((w : Nat) : Int) < 4
        · rw [decide_eq_true q4] at C
          exact ⟨5, by omega, by omega, (hIfT C).trans rfl⟩
        · rw [decide_eq_false q4] at C
          exact ⟨3, by omega, by omega, (hIfF C).trans rfl⟩
      obtain ⟨rows, h', z, I', R, sh, lr, sm⟩ := rows_ok (size := size) (most := 7) (wide := wd) I2 (by omega) (by omega) (by omega) w0 (by omega)
      have C := (call_ok (b := m_law_rows) (cons_ok v0 (cons_ok v2 (cons_ok (rfl : eK (.int 7) τ h2 = .ok (nI 7) h2) (cons_ok ew (rfl : aNil τ h2 = .ok [] h2)))))).trans z
      have E : bdC τ h2 = .rt (.tup [nI size, rowsLT rows]) h' := by
        refine ret_ok ?_
        unfold eTup
        rw [cons_ok v2 (cons_ok C (rfl : aNil τ h' = .ok [] h'))]
        rfl
      exact ⟨size, rows, h', fin ((seq_nx ((if_f T1).trans rfl)).trans ((seq_nx ((if_f T2).trans rfl)).trans E)), I', R, fun l hl => by have := sh l hl; omega, by omega, by omega, by omega, sm2.trans sm⟩
end
end BD

set_option Elab.async false
set_option linter.all false
set_option maxRecDepth 100000
set_option maxHeartbeats 4000000
namespace BD
open PySem L2 TL K13
/-! ### the hands -/
theorem app2_ok {p : Nat} {h h2 : VH} {ts : List T} {t : T} {xs0 : List T} {f g : ME} {τ : TS_} (hp0 : h[p]? = some (.lst xs0)) (hp : h2[p]? = some (.lst ts)) (hl : ts.length < 16777216) (e : f τ h = .ok (.ref p) h) (e2 : g τ h = .ok t h2) : sExpr (eMt "list" mAppend f (aCons g aNil)) τ h = .nx τ (h2.set p (.lst (ts ++ [t]))) := by
  have tt : tyT h "list" (.ref p) = true := by simp [tyT, hp0]
  refine expr_ok (t := .non) ?_
  unfold eMt
  simp only [e, tt, if_true, cons_ok e2 (rfl : aNil τ h2 = .ok [] h2), mAppend, hp, if_pos hl]
theorem lim_ok {g : MA} {τ : TS_} {h h1 : VH} {ts : List T} (e : g τ h = .ok ts h1) (hl : ts.length ≤ 16777216) : aLim g τ h = .ok ts h1 := by
  unfold aLim
  rw [e]
  exact if_pos hl
def hd0 : MS := (sPar 3 4 (aCons (eH (mRg1 (eVar 1))) (aCons (eL (aLim (aCons (eH (aLim aNil)) (aCons (eH (aLim aNil)) aNil)))) aNil)))
def hdM : MI := (iRange1 (aCons (eCall m_law_draw (aCons (eVar 0) (aCons (eOp TL.bAdd (eOp TL.bMul (eK (.int 2)) (eVar 2)) (eK (.int 1))) aNil))) aNil))
def hdP : ME := (eMt "list" mPopAt (eVar 3) (aCons (eCall m_law_draw (aCons (eVar 0) (aCons (eCall fLen (aCons (eVar 3) aNil)) aNil))) aNil))
def hdI : MS := (sIf (bTest (eOp TL.bLt (eCall fLen (aCons (eVar 6) aNil)) (eVar 2))) (sExpr (eMt "list" mAppend (eVar 6) (aCons hdP aNil))) sNil)
def hdB : MS := (sIf (bTest (eOp TL.bGt (eCall fLen (aCons (eVar 3) aNil)) (eK (.int 0)))) (sSeq (sSet 6 (eOp TL.bIx (eVar 4) (eCall m_law_draw (aCons (eVar 0) (aCons (eK (.int 2)) aNil))))) hdI) sNil)
def hdR : MS := (sRet (eTup (aCons (eCall fTuple (aCons (eL (mCall fSorted (aCons (eOp TL.bIx (eVar 4) (eK (.int 0))) aNil))) aNil)) (aCons (eCall fTuple (aCons (eL (mCall fSorted (aCons (eOp TL.bIx (eVar 4) (eK (.int 1))) aNil))) aNil)) aNil))))
theorem hd_eq : s_law_hands = sSeq hd0 (sSeq (sFor hdM (mgName 5) hdB) hdR) := rfl
abbrev hdF (n size most L : Nat) (turn hand : Option T) : TS_ := [some (.ref n), some (nI size), some (nI most), some (.ref L), some (.lst [.ref (L + 1), .ref (L + 2)]), turn, hand]
structure HdI (n size most L : Nat) (h : VH) : Prop where
  iv : Iv n h
  ex : ∃ ls a b : List Nat, (a ++ (b ++ ls)).Perm (List.range size) ∧ h[L]? = some (.lst (ls.map nI)) ∧ h[L + 1]? = some (.lst (a.map nI)) ∧ h[L + 2]? = some (.lst (b.map nI)) ∧ a.length ≤ most ∧ b.length ≤ most
section
variable {n size most : Nat}
theorem hdB_ok {L : Nat} {h0 h : VH} (J : HdI n size most L h) (nL : n < L) (s1 : size ≤ 30) (m1 : most ≤ 30) (hl : h0.length = L) (sm : Same n h0 h) (turn hand : Option T) :
    ∃ (hand' : Option T) (h' : VH), hdB (hdF n size most L turn hand) h = .nx (hdF n size most L turn hand') h' ∧ HdI n size most L h' ∧ Same n h0 h' := by
  obtain ⟨I, ls, a, b, pm, qL, qA, qB, la, lb⟩ := J
  have pl := pm.length_eq
  simp only [List.length_append, List.length_range] at pl
  obtain ⟨τ, hτ⟩ : ∃ τ, τ = hdF n size most L turn hand := ⟨_, rfl⟩
  have v3 : eVar 3 τ h = .ok (.ref L) h := by rw [hτ]; rfl
  have Ln := lenR v3 qL
  rw [List.length_map] at Ln
  have C := test_ok ((op_ok (b := TL.bGt) Ln (rfl : eK (.int 0) τ h = .ok (.int 0) h)).trans (hGt _ _ h))
  by_cases q : ls.length = 0
  · rw [decide_eq_false (by omega)] at C
    exact ⟨hand, h, by rw [← hτ]; exact (if_f C).trans (by rw [hτ]; rfl), ⟨I, ls, a, b, pm, qL, qA, qB, la, lb⟩, sm⟩
  · rw [decide_eq_true (by omega)] at C
    obtain ⟨r, o, e, lt, io⟩ := draw_ok (k := 2) I (by omega) (by omega)
    have I1 := I.draw io
    obtain ⟨h1, e1⟩ : ∃ h1, h1 = h.set n o := ⟨_, rfl⟩
    have sm1 : Same n h0 h1 := by rw [e1]; exact sm.trans .draw
    have g1 : ∀ p, p ≠ n → h1[p]? = h[p]? := fun p hp => by rw [e1]; exact List.getElem?_set_ne (Ne.symm hp)
    rw [← e1] at e I1
    have v0 : eVar 0 τ h = .ok (.ref n) h := by rw [hτ]; rfl
    have v4 : eVar 4 τ h = .ok (.lst [.ref (L + 1), .ref (L + 2)]) h := by rw [hτ]; rfl
    have D := dK v0 e
    obtain ⟨A, eA, hA⟩ : ∃ A, (A = L + 1 ∨ A = L + 2) ∧ TL.bIx (.lst [.ref (L + 1), .ref (L + 2)]) (.int (r : Nat)) h1 = .ok (.ref A) h1 := by
      have : r = 0 ∨ r = 1 := by omega
      rcases this with rfl | rfl
      · exact ⟨L + 1, .inl rfl, rfl⟩
      · exact ⟨L + 2, .inr rfl, rfl⟩
    have S6 := set_ok (i := 6) ((op_ok (b := TL.bIx) v4 D).trans hA)
    obtain ⟨τ2, hτ2⟩ : ∃ τ2, τ2 = hdF n size most L turn (some (.ref A)) := ⟨_, rfl⟩
    have e62 : τ.set 6 (some (.ref A)) = τ2 := by rw [hτ, hτ2]; rfl
    rw [e62] at S6
    have w0 : ∀ h, eVar 0 τ2 h = .ok (.ref n) h := fun h => by rw [hτ2]; rfl
    have w2 : ∀ h, eVar 2 τ2 h = .ok (nI most) h := fun h => by rw [hτ2]; rfl
    have w3 : ∀ h, eVar 3 τ2 h = .ok (.ref L) h := fun h => by rw [hτ2]; rfl
    have w6 : ∀ h, eVar 6 τ2 h = .ok (.ref A) h := fun h => by rw [hτ2]; rfl
    obtain ⟨xs, qX, lx⟩ : ∃ xs : List Nat, h1[A]? = some (.lst (xs.map nI)) ∧ ((A = L + 1 ∧ xs = a) ∨ (A = L + 2 ∧ xs = b)) := by
      rcases eA with rfl | rfl
      · exact ⟨a, (g1 _ (by omega)).trans qA, .inl ⟨rfl, rfl⟩⟩
      · exact ⟨b, (g1 _ (by omega)).trans qB, .inr ⟨rfl, rfl⟩⟩
    have Ln2 := lenR (w6 h1) qX
    rw [List.length_map] at Ln2
    have C2 := test_ok ((op_ok (b := TL.bLt) Ln2 (w2 h1)).trans (hLt _ _ h1))
    have front : ∀ {o : Out}, hdI τ2 h1 = o → hdB τ h = o := fun {o} q => (if_t C).trans ((seq_nx S6).trans q)
    rw [← hτ]
    by_cases q2 : xs.length < most
    · rw [decide_eq_true (by omega)] at C2
      obtain ⟨k, hk, h2, e2, I2, q2L, sm2, l2⟩ := pop_ok (q := L) (i0 := 0) (iq := 3) (τ := τ2) I1 (by omega) ((g1 L (by omega)).trans qL) (fun z => by rw [z] at q; exact q rfl) (by omega) w0 w3
      have nA : A ≠ n := by rcases eA with rfl | rfl <;> omega
      have nAL : A ≠ L := by rcases eA with rfl | rfl <;> omega
      have X2 : h2[A]? = some (.lst (xs.map nI)) := (sm2 A nA nAL).trans qX
      have P := app2_ok (f := eVar 6) (g := hdP) (τ := τ2) qX X2 (by rw [List.length_map]; omega) (w6 h1) e2
      have em : xs.map nI ++ [nI ls[k]] = (xs ++ [ls[k]]).map nI := by rw [List.map_append]; rfl
      rw [em] at P
      have lA : A < h2.length := (List.getElem?_eq_some_iff.mp X2).1
      refine ⟨some (.ref A), _, front ((if_t C2).trans (P.trans (by rw [hτ2]))), ⟨I2.put nA (nI_low _), ?_⟩, ?_⟩
      · have gL : (h2.set A (.lst ((xs ++ [ls[k]]).map nI)))[L]? = some (.lst ((ls.eraseIdx k).map nI)) := by rw [List.getElem?_set_ne nAL]; exact q2L
        have gA : (h2.set A (.lst ((xs ++ [ls[k]]).map nI)))[A]? = some (.lst ((xs ++ [ls[k]]).map nI)) := List.getElem?_set_self lA
        have ep := erase_perm ls k hk
        rcases lx with ⟨rfl, rfl⟩ | ⟨rfl, rfl⟩
        · refine ⟨ls.eraseIdx k, xs ++ [ls[k]], b, ?_, gL, gA, ?_, by rw [List.length_append]; simp; omega, lb⟩
          · rw [List.append_assoc]
            refine List.Perm.trans ?_ pm
            refine List.Perm.append_left xs ?_
            show (ls[k] :: (b ++ ls.eraseIdx k)).Perm _
            exact List.perm_middle.symm.trans (List.Perm.append_left b ep)
          · rw [List.getElem?_set_ne (by omega)]
            exact (sm2 _ (by omega) (by omega)).trans ((g1 _ (by omega)).trans qB)
        · refine ⟨ls.eraseIdx k, a, xs ++ [ls[k]], ?_, gL, ?_, gA, la, by rw [List.length_append]; simp; omega⟩
          · refine List.Perm.trans ?_ pm
            refine List.Perm.append_left a ?_
            rw [List.append_assoc]
            exact List.Perm.append_left xs ep
          · rw [List.getElem?_set_ne (by omega)]
            exact (sm2 _ (by omega) (by omega)).trans ((g1 _ (by omega)).trans qA)
      · have l1 : h1.length = h.length := by rw [e1, List.length_set]
        exact ⟨by rw [List.length_set]; have := sm.1; omega, fun x hx xn => (List.getElem?_set_ne (by rcases eA with rfl | rfl <;> omega)).trans ((sm2 x xn (by omega)).trans (sm1.2 x hx xn))⟩
    · rw [decide_eq_false (by omega)] at C2
      exact ⟨some (.ref A), h1, front ((if_f C2).trans (by rw [hτ2]; rfl)), ⟨I1, ls, a, b, pm, (g1 _ (by omega)).trans qL, (g1 _ (by omega)).trans qA, (g1 _ (by omega)).trans qB, la, lb⟩, sm1⟩
theorem hands_ok {h : VH} (I : Iv n h) (s1 : size ≤ 30) (m1 : most ≤ 30) :
    ∃ (mine its : List Nat) (h' : VH), m_law_hands [.ref n, nI size, nI most] h = .ok (.tup [lineT mine, lineT its]) h' ∧ Iv n h' ∧ Hand size mine [] ∧ Hand size its mine ∧ mine.length ≤ most ∧ its.length ≤ most ∧ Same n h h' := by
  have nL := I.lt
  obtain ⟨L, hL⟩ : ∃ L, L = h.length := ⟨_, rfl⟩
  obtain ⟨h1, e1⟩ : ∃ h1, h1 = h ++ [VO.lst ((List.range size).map nI)] ++ [.lst []] ++ [.lst []] := ⟨_, rfl⟩
  have S0 : hd0 (startT 7 [.ref n, nI size, nI most]) h = .nx (hdF n size most L none none) h1 := by
    have R : eH (mRg1 (eVar 1)) (startT 7 [.ref n, nI size, nI most]) h = .ok (.ref L) (h ++ [.lst ((List.range size).map nI)]) := by
      unfold eH mRg1
      rw [show eVar 1 (startT 7 [.ref n, nI size, nI most]) h = .ok (nI size) h from rfl]
      simp only
      rw [if_pos ⟨by omega, by omega⟩, Int.toNat_natCast, range_nI]
      simp only [hL]
    have Q : eL (aLim (aCons (eH (aLim aNil)) (aCons (eH (aLim aNil)) aNil))) (startT 7 [.ref n, nI size, nI most]) (h ++ [.lst ((List.range size).map nI)]) = .ok (.lst [.ref (L + 1), .ref (L + 2)]) h1 := by
      have a1 : ∀ k : VH, eH (aLim aNil) (startT 7 [.ref n, nI size, nI most]) k = .ok (.ref k.length) (k ++ [.lst []]) := fun k => rfl
      refine (eL_ok (lim_ok (cons_ok (a1 _) (cons_ok (a1 _) (rfl : aNil _ _ = .ok [] _))) (by simp))).trans ?_
      rw [e1, hL]
      simp
    unfold hd0 sPar
    rw [cons_ok R (cons_ok Q (rfl : aNil _ h1 = .ok [] h1))]
    rfl
  have J0 : HdI n size most L h1 := by
    refine ⟨by rw [e1]; exact ((I.app (nI_low _)).app fun m => rfl).app fun m => rfl, List.range size, [], [], List.Perm.refl _, ?_, ?_, ?_, Nat.zero_le _, Nat.zero_le _⟩ <;> rw [e1, hL] <;> simp
  have sm0 : Same n h h1 := by rw [e1]; exact (Same.app.trans .app).trans .app
  have mul : eOp TL.bAdd (eOp TL.bMul (eK (.int 2)) (eVar 2)) (eK (.int 1)) (hdF n size most L none none) h1 = .ok (nI (2 * most + 1)) h1 :=
    (op_ok (b := TL.bAdd) ((op_ok (b := TL.bMul) (rfl : eK (.int 2) _ h1 = .ok (nI 2) h1) (rfl : eVar 2 (hdF n size most L none none) h1 = .ok (nI most) h1)).trans (mul_nI 2 most (by omega) h1)) (rfl : eK (.int 1) _ h1 = .ok (nI 1) h1)).trans (add_nI _ _ h1)
  obtain ⟨r, o, e, lt, io⟩ := draw_ok (k := ((2 * most + 1 : Nat) : Int)) J0.iv (by omega) (by omega)
  have D := (call_ok (b := m_law_draw) (cons_ok (rfl : eVar 0 (hdF n size most L none none) h1 = .ok (.ref n) h1) (cons_ok mul (rfl : aNil _ h1 = .ok [] h1)))).trans e
  have mi : hdM (hdF n size most L none none) h1 = .ok (fun _ => some (rangeT 0 r)) (h1.set n o) := rngk (cons_ok D rfl) (by omega)
  have J1 : HdI n size most L (h1.set n o) := by
    obtain ⟨I1, ls, a, b, pm, qL, qA, qB, la, lb⟩ := J0
    exact ⟨I1.draw io, ls, a, b, pm, by rw [List.getElem?_set_ne (by omega)]; exact qL, by rw [List.getElem?_set_ne (by omega)]; exact qA, by rw [List.getElem?_set_ne (by omega)]; exact qB, la, lb⟩
  obtain ⟨τ', h', z, ⟨t, hd, rfl⟩, J, sm⟩ := sFor_inv (mi := hdM) (g := mgName 5) (body := hdB) (τ := hdF n size most L none none) (h := h1) (h1 := h1.set n o) (rd := fun _ => some (rangeT 0 r)) (ts := rangeT 0 r)
    (fun i τ h' => (∃ (t hd : Option T), τ = hdF n size most L t hd) ∧ HdI n size most L h' ∧ Same n h h') mi ⟨⟨none, none, rfl⟩, J1, sm0.trans .draw⟩ (fun _ _ _ _ => rfl) (fun i hi τ h' K => by
      obtain ⟨⟨t, hd, rfl⟩, J, sm⟩ := K
      obtain ⟨hd', h2, e2, J2, sm2⟩ := hdB_ok J (by omega) s1 m1 hL.symm sm (some (rangeT 0 r)[i]) hd
      exact ⟨hdF n size most L (some (rangeT 0 r)[i]) hd, h', _, h2, rfl, .inl e2, ⟨_, _, rfl⟩, J2, sm2⟩)
  obtain ⟨I', ls, a, b, pm, qL, qA, qB, la, lb⟩ := J
  have so : ∀ (i : Int) (A : Nat) (xs : List Nat), TL.bIx (.lst [.ref (L + 1), .ref (L + 2)]) (.int i) h' = .ok (.ref A) h' → h'[A]? = some (.lst (xs.map nI)) → eCall fTuple (aCons (eL (mCall fSorted (aCons (eOp TL.bIx (eVar 4) (eK (.int i))) aNil))) aNil) (hdF n size most L t hd) h' = .ok (lineT (srt xs)) h' := fun i A xs q1 q2 => by
    have C : mCall fSorted (aCons (eOp TL.bIx (eVar 4) (eK (.int i))) aNil) (hdF n size most L t hd) h' = .ok ((srt xs).map nI) h' := by
      unfold mCall
      rw [cons_ok ((op_ok (b := TL.bIx) (rfl : eVar 4 _ h' = .ok (.lst [.ref (L + 1), .ref (L + 2)]) h') (rfl : eK (.int i) _ h' = .ok (.int i) h')).trans q1) rfl]
      exact sorted_ints (by simp [TL.listOf, q2])
    exact tupLine (eL_ok C)
  have nd : (a ++ (b ++ ls)).Nodup := pm.nodup_iff.mpr List.nodup_range
  have lt' : ∀ c, c ∈ a ++ (b ++ ls) → c < size := fun c hc => List.mem_range.mp (pm.mem_iff.mp hc)
  have nb := (List.nodup_append.mp nd).2.1
  refine ⟨srt a, srt b, h', ?_, I', ⟨srt_asc (List.nodup_append.mp nd).1, fun c hc => lt' c (List.mem_append_left _ (srt_mem.mp hc)), fun _ _ z => by cases z⟩, ⟨srt_asc (List.nodup_append.mp nb).1, fun c hc => lt' c (List.mem_append_right _ (List.mem_append_left _ (srt_mem.mp hc))), fun c hc z => ?_⟩, by rw [srt_len]; exact la, by rw [srt_len]; exact lb, sm⟩
  · show defM 7 3 s_law_hands _ _ = _
    rw [hd_eq]
    refine defM_rt rfl ((seq_nx S0).trans ((seq_nx z).trans (ret_ok ?_)))
    unfold eTup
    rw [cons_ok (so 0 _ a rfl qA) (cons_ok (so 1 _ b rfl qB) (rfl : aNil _ h' = .ok [] h'))]
    rfl
  · exact (List.nodup_append.mp nd).2.2 c (srt_mem.mp z) c (List.mem_append_left _ (srt_mem.mp hc)) rfl
end
end BD

set_option Elab.async false
set_option linter.all false
set_option maxRecDepth 100000
set_option maxHeartbeats 4000000
namespace BD
open PySem L2 TL K13
/-! ### the law's list of live lines with their rests -/
def prs (mine its : List Nat) : Nat → List (List Nat) → List (Nat × List Nat)
  | _, [] => []
  | k, l :: ls => if liveB its l = true then (k, restL mine l) :: prs mine its (k + 1) ls else prs mine its (k + 1) ls
theorem prs_snoc (mine its : List Nat) (l : List Nat) : ∀ (ls : List (List Nat)) (k : Nat), prs mine its k (ls ++ [l]) = prs mine its k ls ++ (if liveB its l = true then [(k + ls.length, restL mine l)] else [])
  | [], k => by
    show prs mine its k [l] = _
    unfold prs
    split <;> rfl
  | x :: ls, k => by
    have ih := prs_snoc mine its l ls (k + 1)
    rw [List.cons_append]
    unfold prs
    rw [ih, List.length_cons, show k + 1 + ls.length = k + (ls.length + 1) by omega]
    split <;> rfl
theorem prs_snd (mine its : List Nat) : ∀ (ls : List (List Nat)) (k : Nat), (prs mine its k ls).map Prod.snd = restsL ls mine its
  | [], _ => rfl
  | l :: ls, k => by
    have ih := prs_snd mine its ls (k + 1)
    unfold prs restsL
    rw [List.filter_cons]
    unfold restsL at ih
    split
    · rw [List.map_cons, List.map_cons, ih]
    · exact ih
abbrev prT (p : Nat × List Nat) : T := .tup [nI p.1, lineT p.2]
theorem prs_low (ps : List (Nat × List Nat)) (m : Nat) : VO.lowR m (.lst (ps.map prT)) = true := by
  show lowRs m (ps.map prT) = true
  induction ps with
  | nil => rfl
  | cons p ps ih =>
    rw [List.map_cons]
    simp only [lowRs, T.lowR, line_low, ih, Bool.and_self]
theorem eq_nilI (l : List Nat) (h : VH) : TL.bEq (.lst (l.map nI)) (.lst []) h = .ok (.bl l.isEmpty) h := by
  have e1 : T.dat h 10 (.lst (l.map nI)) = some (.list (l.map fun c : Nat => PyData.int (c : Nat))) := by
    rw [dat_lst, List.mapM_map]
    have := mapM_some (f := fun c : Nat => T.dat h 9 (nI c)) (g := fun c : Nat => PyData.int (c : Nat)) (l := l) fun c _ => dat_int
    rw [show ((T.dat h 9) ∘ nI) = fun c : Nat => T.dat h 9 (nI c) from rfl, this]
    rfl
  have e2 : T.dat h 10 (.lst []) = some (.list []) := rfl
  unfold TL.bEq bEqG
  rw [e1, e2]
  cases l <;> simp [PyData.eqv, PyData.eqvAll]
def lrC : MB := (bTest (eOp TL.bEq (eL (mLc (iSeqC (eVar 5)) [6] (mgName 6) (bTest (eOp TL.bIn (eVar 6) (eVar 2))) (eVar 6))) (eL (aLim aNil))))
def lrA : MS := (sExpr (eMt "list" mAppend (eVar 3) (aCons (eTup (aCons (eVar 4) (aCons (eCall fTuple (aCons (eL (mLc (iSeqC (eVar 5)) [6] (mgName 6) (bTest (eOp TL.bNin (eVar 6) (eVar 1))) (eVar 6))) aNil)) aNil))) aNil)))
theorem lr_eq : s_law_rests = sSeq (sSet 3 (eH (aLim aNil))) (sSeq (sFor (iEnumM (aCons (eVar 0) aNil)) (mgTup 2 (mgsCons (mgName 4) (mgsCons (mgName 5) mgsNil))) (sIf lrC lrA sNil)) (sRet (eVar 3))) := rfl
theorem law_rests_ok {rows : List (List Nat)} {mine its : List Nat} (few : rows.length ≤ 1000) (sh : ∀ l ∈ rows, l.length ≤ 1000) (h : VH) :
    m_law_rests [rowsLT rows, lineT mine, lineT its] h = .ok (.ref h.length) (h ++ [.lst ((prs mine its 0 rows).map prT)]) := by
  have S1 : sSet 3 (eH (aLim aNil)) (startT 7 [rowsLT rows, lineT mine, lineT its]) h = .nx [some (rowsLT rows), some (lineT mine), some (lineT its), some (.ref h.length), none, none, none] (h ++ [VO.lst []]) := rfl
  obtain ⟨τ', h', z, ⟨a, b, c, rfl⟩, rfl⟩ := sFor_inv (mi := iEnumM (aCons (eVar 0) aNil)) (g := mgTup 2 (mgsCons (mgName 4) (mgsCons (mgName 5) mgsNil))) (body := sIf lrC lrA sNil) (τ := [some (rowsLT rows), some (lineT mine), some (lineT its), some (.ref h.length), none, none, none]) (h := h ++ [VO.lst []]) (h1 := h ++ [VO.lst []]) (rd := fun h => some (enumT (rows.map lineT))) (ts := enumT (rows.map lineT))
    (fun i τ h' => (∃ (a b c : Option T), τ = [some (rowsLT rows), some (lineT mine), some (lineT its), some (.ref h.length), a, b, c]) ∧ h' = h ++ [VO.lst ((prs mine its 0 (rows.take i)).map prT)]) rfl ⟨⟨none, none, none, rfl⟩, rfl⟩ (fun _ _ _ _ => rfl) (fun i hi τ h' J => by
      obtain ⟨⟨a, b, c, rfl⟩, e'⟩ := J
      have hi2 : i < rows.length := by simpa [enumT] using hi
      have ei : (enumT (rows.map lineT))[i] = .tup [nI i, lineT rows[i]] := by simp [enumT]
      rw [ei, List.take_succ_eq_append_getElem hi2, prs_snoc, List.length_take, Nat.min_eq_left (by omega), Nat.zero_add]
      obtain ⟨l, hl⟩ : ∃ l, l = rows[i] := ⟨_, rfl⟩
      have sl : l.length ≤ 1000 := by rw [hl]; exact sh _ (List.getElem_mem hi2)
      rw [← hl]
      obtain ⟨τ1, hτ⟩ : ∃ τ1 : TS_, τ1 = [some (rowsLT rows), some (lineT mine), some (lineT its), some (.ref h.length), some (nI i), some (lineT l), c] := ⟨_, rfl⟩
      have v3 : eVar 3 τ1 h' = .ok (.ref h.length) h' := by rw [hτ]; rfl
      have v4 : eVar 4 τ1 h' = .ok (nI i) h' := by rw [hτ]; rfl
      have F1 := filt_ok nI l (fun x => decide (x ∈ its)) (f := eVar 5) (c := bTest (eOp TL.bIn (eVar 6) (eVar 2))) (j := 6) (τ := τ1) (h := h') (by rw [hτ]; rfl) (by omega) (fun x _ => by rw [hτ]; exact test_ok ((op_ok (b := TL.bIn) (rfl : eVar 6 _ h' = .ok (nI x) h') (rfl : eVar 2 _ h' = .ok (lineT its) h')).trans (in_line x its h'))) (fun t => by rw [hτ]; rfl)
      have F2 := filt_ok nI l (fun x => !decide (x ∈ mine)) (f := eVar 5) (c := bTest (eOp TL.bNin (eVar 6) (eVar 1))) (j := 6) (τ := τ1) (h := h') (by rw [hτ]; rfl) (by omega) (fun x _ => by rw [hτ]; exact test_ok ((op_ok (b := TL.bNin) (rfl : eVar 6 _ h' = .ok (nI x) h') (rfl : eVar 1 _ h' = .ok (lineT mine) h')).trans (nin_line x mine h'))) (fun t => by rw [hτ]; rfl)
      have C : lrC τ1 h' = .ok ((l.filter fun x => decide (x ∈ its)).isEmpty) h' := test_ok ((op_ok (b := TL.bEq) F1 (rfl : eL (aLim aNil) τ1 h' = .ok (.lst []) h')).trans (eq_nilI _ h'))
      have ce : (l.filter fun x => decide (x ∈ its)).isEmpty = liveB its l := by
        unfold liveB
        clear C F1 F2 hτ hl sl
        induction l with
        | nil => rfl
        | cons x l ih =>
          rw [List.filter_cons, List.any_cons]
          cases decide (x ∈ its)
          · simpa using ih
          · rfl
      rw [ce] at C
      have g : mgTup 2 (mgsCons (mgName 4) (mgsCons (mgName 5) mgsNil)) (.tup [nI i, lineT l]) [some (rowsLT rows), some (lineT mine), some (lineT its), some (.ref h.length), a, b, c] h' = .ok τ1 h' := by rw [hτ]; rfl
      by_cases q : liveB its l = true
      · rw [q] at C
        have tt : eTup (aCons (eVar 4) (aCons (eCall fTuple (aCons (eL (mLc (iSeqC (eVar 5)) [6] (mgName 6) (bTest (eOp TL.bNin (eVar 6) (eVar 1))) (eVar 6))) aNil)) aNil)) τ1 h' = .ok (prT (i, restL mine l)) h' := by
          unfold eTup
          rw [cons_ok v4 (cons_ok (tupLine F2) (rfl : aNil τ1 h' = .ok [] h'))]
          rfl
        have at_ : h'[h.length]? = some (.lst ((prs mine its 0 (rows.take i)).map prT)) := by rw [e']; simp
        have ln : (prs mine its 0 (rows.take i)).length ≤ 1000 := by
          have h1 := congrArg List.length (prs_snd mine its (rows.take i) 0)
          rw [List.length_map] at h1
          unfold restsL at h1
          rw [List.length_map] at h1
          have h2 : ((rows.take i).filter (liveB its)).length ≤ (rows.take i).length := List.length_filter_le _ _
          rw [List.length_take] at h2
          omega
        have P := app_ok (f := eVar 3) (g := _) at_ (by rw [List.length_map]; omega) v3 tt
        refine ⟨τ1, h', τ1, _, g, .inl ((if_t C).trans P), ⟨_, _, _, hτ⟩, ?_⟩
        rw [if_pos q, e', List.map_append]
        simp
      · rw [Bool.not_eq_true] at q
        rw [q] at C
        refine ⟨τ1, h', τ1, h', g, .inl ((if_f C).trans rfl), ⟨_, _, _, hτ⟩, ?_⟩
        rw [if_neg (by rw [q]; exact Bool.false_ne_true), List.append_nil]
        exact e')
  have e0 : (enumT (rows.map lineT)).length = rows.length := by simp [enumT]
  rw [e0, List.take_length] at z
  show defM 7 3 s_law_rests _ _ = _
  rw [lr_eq]
  exact defM_rt rfl ((seq_nx S1).trans ((seq_nx z).trans (ret_ok rfl)))
end BD

set_option Elab.async false
set_option linter.all false
set_option maxRecDepth 100000
set_option maxHeartbeats 4000000
namespace BD
open PySem L2 TL K13 K06
section
variable {size : Nat} {rows : List (List Nat)} {mine its : List Nat}
theorem text_ok (h : VH) : m_Board_text [boardT size rows] h = .ok (.str (boardS size rows)) h := rfl
theorem sboard_ok (h : VH) : m_Stand_board [standT size rows mine its] h = .ok (boardT size rows) h := rfl
theorem sfirst_ok (h : VH) : m_Stand_first [standT size rows mine its] h = .ok (lineT mine) h := rfl
theorem ssecond_ok (h : VH) : m_Stand_second [standT size rows mine its] h = .ok (lineT its) h := rfl
theorem both_ok (h : VH) : m_Stand_both [standT size rows mine its] h = .ok (.tup [lineT mine, lineT its]) h := rfl
theorem prop1 {m : List T → VH → Res T} {f : ME} {τ : TS_} {h : VH} {r : Res T} (e : f τ h = .ok (standT size rows mine its) h) (q : m [standT size rows mine its] h = r) : eProp 1 m f τ h = r := by
  unfold eProp
  rw [e]
  exact q
theorem prop0 {m : List T → VH → Res T} {f : ME} {τ : TS_} {h : VH} {r : Res T} (e : f τ h = .ok (boardT size rows) h) (q : m [boardT size rows] h = r) : eProp 0 m f τ h = r := by
  unfold eProp
  rw [e]
  exact q
theorem and_f {f g : ME} {τ : TS_} {h h1 : VH} (e : f τ h = .ok (.bl false) h1) : eAnd f g τ h = .ok (.bl false) h1 := by unfold eAnd; rw [e]
theorem and_t {f g : ME} {τ : TS_} {h h1 : VH} (e : f τ h = .ok (.bl true) h1) : eAnd f g τ h = g τ h1 := by unfold eAnd; rw [e]
/-- the same board is equal to itself -/
theorem beq_ok (h : VH) : m_Board___eq__ [boardT size rows, boardT size rows] h = .ok (.bl true) h := by
  refine defM_rt rfl (ret_ok ?_)
  refine (and_t (h1 := h) rfl).trans ?_
  refine (op_ok (b := TL.bEq) (rfl : eFld 0 0 (eVar 0) (startT 2 [boardT size rows, boardT size rows]) h = .ok (.str (boardS size rows)) h) (prop0 (rfl : eVar 1 (startT 2 [boardT size rows, boardT size rows]) h = .ok (boardT size rows) h) (text_ok h))).trans ?_
  rw [TL.eq_strs, beq_self_eq_true]
theorem eqO_board (h : VH) : bEqO 0 false m_Board___eq__ (boardT size rows) (boardT size rows) h = .ok (.bl true) h := by
  have e1 : getI h (boardT size rows) = some (0, [.str (boardS size rows), .int (size : Nat), rowsLT rows]) := rfl
  have e2 : tyOf h (boardT size rows) = some (.o 0) := rfl
  unfold bEqO
  simp only [e1, e2, beq_ok, if_true]
  rfl
theorem eqv_two (a b c d : List Nat) : PyData.eqv (.tuple [lnD a, lnD b]) (.tuple [lnD c, lnD d]) = (decide (a = c) && decide (b = d)) := by
  have e1 := eqv_line a c
  have e2 := eqv_line b d
  show PyData.eqvAll [lnD a, lnD b] [lnD c, lnD d] = _
  unfold PyData.eqvAll PyData.eqvAll PyData.eqvAll
  rw [e1, e2, Bool.and_true]
theorem eq_two (a b c d : List Nat) (h : VH) : TL.bEq (.tup [lineT a, lineT b]) (.tup [lineT c, lineT d]) h = .ok (.bl (decide (a = c) && decide (b = d))) h := by
  have e : ∀ a b : List Nat, T.dat h 10 (.tup [lineT a, lineT b]) = some (.tuple [lnD a, lnD b]) := fun a b => by
    rw [dat_tup]
    simp [List.mapM_cons, line_dat a h 8, line_dat b h 8]
  unfold TL.bEq bEqG
  rw [e, e]
  simp only [eqv_two]
theorem seq_ok (m2 i2 : List Nat) (h : VH) : m_Stand___eq__ [standT size rows mine its, standT size rows m2 i2] h = .ok (.bl (decide (mine = m2) && decide (its = i2))) h := by
  obtain ⟨τ, hτ⟩ : ∃ τ, τ = startT 2 [standT size rows mine its, standT size rows m2 i2] := ⟨_, rfl⟩
  have v0 : eVar 0 τ h = .ok (standT size rows mine its) h := by rw [hτ]; rfl
  have v1 : eVar 1 τ h = .ok (standT size rows m2 i2) h := by rw [hτ]; rfl
  refine defM_rt rfl (ret_ok ?_)
  rw [← hτ]
  refine (and_t (h1 := h) (by rw [hτ]; rfl)).trans ((and_t (h1 := h) ((op_ok (b := bEqO 0 false m_Board___eq__) (fld0 v0) (prop1 v1 (sboard_ok h))).trans (eqO_board h))).trans ?_)
  have A : eMeth 1 m_Stand_both (eVar 0) aNil τ h = .ok (.tup [lineT mine, lineT its]) h := by
    unfold eMeth
    rw [v0]
    rfl
  have B : eTup (aCons (eProp 1 m_Stand_first (eVar 1)) (aCons (eProp 1 m_Stand_second (eVar 1)) aNil)) τ h = .ok (.tup [lineT m2, lineT i2]) h := by
    unfold eTup
    rw [cons_ok (prop1 v1 (sfirst_ok h)) (cons_ok (prop1 v1 (ssecond_ok h)) (rfl : aNil τ h = .ok [] h))]
    rfl
  exact (op_ok (b := TL.bEq) A B).trans (eq_two _ _ _ _ h)
theorem eqO_stand (neg : Bool) (m2 i2 : List Nat) (h : VH) : bEqO 1 neg m_Stand___eq__ (standT size rows mine its) (standT size rows m2 i2) h = .ok (.bl (neg != (decide (mine = m2) && decide (its = i2)))) h := by
  have e1 : getI h (standT size rows mine its) = some (1, [boardT size rows, lineT mine, lineT its]) := rfl
  have e2 : tyOf h (standT size rows m2 i2) = some (.o 1) := rfl
  unfold bEqO
  simp only [e1, e2, seq_ok, if_true]
/-- no stand -/
def NoStand (t : T) (h : VH) : Prop := ∃ y, tyOf h t = some y ∧ isiB y (.o 1) = false
theorem eqO_odd (neg : Bool) {t : T} {h : VH} (n : NoStand t h) : bEqO 1 neg m_Stand___eq__ (standT size rows mine its) t h = .ok (.bl neg) h := by
  obtain ⟨y, ty, ny⟩ := n
  have e1 : getI h (standT size rows mine its) = some (1, [boardT size rows, lineT mine, lineT its]) := rfl
  have e : m_Stand___eq__ [standT size rows mine its, t] h = .ok (.bl false) h := by
    refine defM_rt rfl (ret_ok (and_f ?_))
    have v1 : eVar 1 (startT 2 [standT size rows mine its, t]) h = .ok t h := rfl
    unfold eIsi
    rw [v1]
    simp only [ty, ny]
  unfold bEqO
  simp only [e1, ty, e, if_true, Bool.bne_false]
/-! ### texts of a stand -/
theorem bstr_ok (h : VH) : fOwn1 0 m_Board___str__ [boardT size rows] h = .ok (.str (boardS size rows)) h := rfl
theorem mem_filter_eq {l : List Nat} (asc : l.Pairwise (· < ·)) (lt : ∀ c ∈ l, c < size) : (List.range size).filter (fun c => decide (c ∈ l)) = l := by
  refine eq_of_strict (fun c : Nat => (c : Int)) ((List.Pairwise.filter _ List.pairwise_lt_range).imp fun h => by omega) (asc.imp fun h => by omega) fun x => ?_
  rw [List.mem_filter, List.mem_range]
  constructor
  · rintro ⟨_, h⟩
    exact of_decide_eq_true h
  · intro h
    exact ⟨lt x h, decide_eq_true h⟩
theorem three (p q : Nat → Bool) : ∀ l : List Nat, (l.filter p).length + (l.filter fun c => !p c && q c).length + (l.filter fun c => !p c && !q c).length = l.length
  | [] => rfl
  | c :: l => by
    have ih := three p q l
    rw [List.filter_cons, List.filter_cons, List.filter_cons]
    cases p c <;> cases q c <;> simp <;> omega
theorem free_count (M : Hand size mine []) (I : Hand size its mine) : (freeL size mine its).length + mine.length + its.length = size := by
  have t := three (fun c => decide (c ∈ mine)) (fun c => decide (c ∈ its)) (List.range size)
  have e1 := congrArg List.length (mem_filter_eq M.asc M.lt)
  have e2 : (List.range size).filter (fun c => !decide (c ∈ mine) && decide (c ∈ its)) = its := by
    refine Eq.trans (List.filter_congr fun c _ => ?_) (mem_filter_eq I.asc I.lt)
    by_cases q : c ∈ its
    · rw [decide_eq_true q, decide_eq_false (I.out c q)]
      rfl
    · rw [decide_eq_false q, Bool.and_false]
  rw [e1, congrArg List.length e2, List.length_range] at t
  unfold freeL
  omega
def standS (n : Nat) : Str := ((("Stand with " : String) : Str) ++ numS n) ++ ((" free cells" : String) : Str)
theorem empty_app (a : Str) : Str.empty ++ a = a := nil_app a
theorem srepr_ok (s1 : size ≤ 30) (M : Hand size mine []) (I : Hand size its mine) (h : VH) : fOwn1 1 m_Stand___repr__ [standT size rows mine its] h = .ok (.str (standS (freeL size mine its).length)) h := by
  have cnt := free_count M I
  obtain ⟨n, hn⟩ : ∃ n, n = (freeL size mine its).length := ⟨_, rfl⟩
  rw [← hn] at cnt ⊢
  have e1 : getI h (standT size rows mine its) = some (1, [boardT size rows, lineT mine, lineT its]) := rfl
  have e : m_Stand___repr__ [standT size rows mine its] h = .ok (.str (standS n)) h := by
    refine defM_rt rfl (ret_ok ?_)
    obtain ⟨τ, hτ⟩ : ∃ τ, τ = startT 1 [standT size rows mine its] := ⟨_, rfl⟩
    have v0 : eVar 0 τ h = .ok (standT size rows mine its) h := by rw [hτ]; rfl
    have L1 := hLenT (ts := mine.map fun c => T.int (c : Nat)) (fld1 v0)
    have L2 := hLenT (ts := its.map fun c => T.int (c : Nat)) (fld2 v0)
    rw [List.length_map] at L1 L2
    have A := (op_ok (b := TL.bSub) ((op_ok (b := TL.bSub) (bfld1 (fld0 v0)) L1).trans (hSub _ _ h)) L2).trans (hSub _ _ h)
    rw [show (size : Int) - (mine.length : Nat) - (its.length : Nat) = ((n : Nat) : Int) by omega] at A
    have ns := fStr_num (n := n) (by omega) h
    have nl := num_len (n := n) (by omega)
    have F : eFmt (eOp TL.bSub (eOp TL.bSub (eFld 0 1 (eFld 1 0 (eVar 0))) (eCall fLen (aCons (eFld 1 1 (eVar 0)) aNil))) (eCall fLen (aCons (eFld 1 2 (eVar 0)) aNil))) τ h = .ok (.str (numS n)) h := by
      unfold eFmt
      rw [A]
      simp only [fStr] at ns
      split at ns
      · rename_i c
        simp only
        exact if_pos c
      · cases ns
    rw [← hτ]
    show runJ [eK (.str "Stand with "), _, eK (.str " free cells")] Str.empty τ h = _
    have a1 : (("Stand with " : String) : Str).length = 11 := by decide
    have a2 : ((" free cells" : String) : Str).length = 11 := by decide
    have a0 : Str.empty.length = 0 := by decide
    unfold runJ
    rw [show eK (.str "Stand with ") τ h = .ok (.str "Stand with ") h from rfl]
    simp only
    rw [if_pos (by omega), empty_app]
    unfold runJ
    rw [F]
    simp only
    rw [if_pos (by omega)]
    unfold runJ
    rw [show eK (.str " free cells") τ h = .ok (.str " free cells") h from rfl]
    simp only
    rw [if_pos (by rw [TL.len_app]; omega)]
    rfl
  unfold fOwn1
  simp only [e1, e, if_true]
end
end BD

set_option Elab.async false
set_option linter.all false
set_option maxRecDepth 100000
set_option maxHeartbeats 4000000
namespace BD
open PySem L2 TL K13 K06
section
variable {size : Nat} {rows : List (List Nat)} {mine its : List Nat}
/-! ### live lines, whether a line is filled -/
theorem live_idx (mine its : List Nat) : ∀ (ls : List (List Nat)) (k : Nat), ((ls.mapIdx fun i l => (k + i, l)).filter fun p => liveB its p.2).map Prod.fst = (prs mine its k ls).map Prod.fst
  | [], _ => rfl
  | l :: ls, k => by
    have ih := live_idx mine its ls (k + 1)
    have e : (ls.mapIdx fun i l => (k + (i + 1), l)) = ls.mapIdx fun i l => (k + 1 + i, l) := by
      refine List.ext_getElem (by simp) fun i h1 h2 => ?_
      simp
      omega
    rw [List.mapIdx_cons, e]
    unfold prs
    rw [List.filter_cons]
    by_cases q : liveB its l = true
    · rw [if_pos q, if_pos q, List.map_cons, List.map_cons, ih]
      rfl
    · rw [if_neg q, if_neg q, ih]
def liveL (rows : List (List Nat)) (mine its : List Nat) : List Nat := (prs mine its 0 rows).map Prod.fst
theorem live_len (R : Rows size rows) : (prs mine its 0 rows).length ≤ 30 := by
  have h1 := congrArg List.length (prs_snd mine its rows 0)
  rw [List.length_map] at h1
  have := rests_len (mine := mine) (its := its) R
  omega
theorem slive_ok (R : Rows size rows) (h : VH) : m_Stand_live [standT size rows mine its] h = .ok (lineT (liveL rows mine its)) h := by
  have v0 : ∀ b c, eVar 0 [some (standT size rows mine its), b, c] h = .ok (standT size rows mine its) h := fun _ _ => rfl
  have sh : ∀ l ∈ rows, l.length ≤ 1000 := fun l hl => by
    have := (R.line l hl).len
    have := R.s1
    omega
  have mi : iEnumM (aCons (eFld 0 2 (eFld 1 0 (eVar 0))) aNil) [some (standT size rows mine its), none, none] h = .ok (fun h => (TL.listOf h (rowsLT rows)).map enumT) h := by
    unfold iEnumM
    rw [cons_ok (bfld2 (fld0 (v0 none none))) (rfl : aNil _ h = .ok [] h)]
    rfl
  have z := mLc_pure (mi := iEnumM (aCons (eFld 0 2 (eFld 1 0 (eVar 0))) aNil)) (ws := [1, 2]) (g := mgTup 2 (mgsCons (mgName 1) (mgsCons (mgName 2) mgsNil))) (c := bTest (eCall m_is_live (aCons (eVar 2) (aCons (eFld 1 2 (eVar 0)) aNil)))) (e := eVar 1) (τ := [some (standT size rows mine its), none, none]) (h := h) (ts := enumT (rows.map lineT)) mi rfl (by simp [enumT]; have := R.len; omega)
    (fun t => match t with | .tup [_, l] => (match m_is_live [l, lineT its] h with | .ok (.bl b) _ => b | _ => false) | _ => false) (fun t => match t with | .tup [i, _] => i | t => t) (fun t ht => by
      obtain ⟨i, hi, rfl⟩ := List.getElem_of_mem ht
      have hi2 : i < rows.length := by simpa [enumT] using hi
      have ei : (enumT (rows.map lineT))[i] = .tup [nI i, lineT rows[i]] := by simp [enumT]
      rw [ei]
      have A := live_ok rows[i] its (sh _ (List.getElem_mem hi2)) h
      refine ⟨[some (standT size rows mine its), some (nI i), some (lineT rows[i])], rfl, ?_, fun _ => rfl⟩
      show _ = Res.ok (match m_is_live [lineT rows[i], lineT its] h with | .ok (.bl b) _ => b | _ => false) h
      rw [A]
      exact test_ok ((call_ok (b := m_is_live) (cons_ok (rfl : eVar 2 _ h = .ok (lineT rows[i]) h) (cons_ok (fld2 (v0 _ _)) (rfl : aNil _ h = .ok [] h)))).trans A))
  have e : ((enumT (rows.map lineT)).filter fun t => match t with | .tup [_, l] => (match m_is_live [l, lineT its] h with | .ok (.bl b) _ => b | _ => false) | _ => false).map (fun t => match t with | .tup [i, _] => i | t => t) = (liveL rows mine its).map nI := by
    have e0 : enumT (rows.map lineT) = (rows.mapIdx fun i l => (0 + i, l)).map fun p => T.tup [nI p.1, lineT p.2] := by
      refine List.ext_getElem (by simp [enumT]) fun i h1 h2 => ?_
      simp [enumT]
    unfold liveL
    rw [← live_idx mine its rows 0, e0, List.filter_map, List.map_map, List.map_map]
    have e1 : (rows.mapIdx fun i l => (0 + i, l)).filter ((fun t => match t with | .tup [_, l] => (match m_is_live [l, lineT its] h with | .ok (.bl b) _ => b | _ => false) | _ => false) ∘ fun p : Nat × List Nat => T.tup [nI p.1, lineT p.2]) = (rows.mapIdx fun i l => (0 + i, l)).filter fun p => liveB its p.2 := by
      refine List.filter_congr fun p hp => ?_
      obtain ⟨i, hi, rfl⟩ := List.getElem_of_mem hp
      have hi2 : i < rows.length := by simpa using hi
      have A := live_ok rows[i] its (sh _ (List.getElem_mem hi2)) h
      simp only [List.getElem_mapIdx, Function.comp]
      rw [A]
    rw [e1]
    rfl
  rw [e] at z
  exact defM_rt rfl (ret_ok (tupLine (eL_ok z)))
def madeB (rows : List (List Nat)) (mine its : List Nat) : Bool := rows.any fun l => liveB its l && decide (restL mine l = [])
theorem made_iff (rows : List (List Nat)) (mine its : List Nat) : madeB rows mine its = decide ([] ∈ restsL rows mine its) := by
  unfold madeB restsL
  rw [Bool.eq_iff_iff, List.any_eq_true, decide_eq_true_iff, List.mem_map]
  constructor
  · rintro ⟨l, hl, q⟩
    rw [Bool.and_eq_true] at q
    exact ⟨l, List.mem_filter.mpr ⟨hl, q.1⟩, of_decide_eq_true q.2⟩
  · rintro ⟨l, hl, q⟩
    obtain ⟨h1, h2⟩ := List.mem_filter.mp hl
    exact ⟨l, h1, by rw [h2, q]; rfl⟩
theorem eq_line (a b : List Nat) (h : VH) : TL.bEq (lineT a) (lineT b) h = .ok (.bl (decide (a = b))) h := by
  unfold TL.bEq bEqG
  rw [line_dat a h 9, line_dat b h 9]
  simp only [eqv_line]
theorem smade_ok (R : Rows size rows) (h : VH) : m_Stand_is_made [standT size rows mine its] h = .ok (.bl (decide ([] ∈ restsL rows mine its))) h := by
  have v0 : ∀ c, eVar 0 [some (standT size rows mine its), c] h = .ok (standT size rows mine its) h := fun _ => rfl
  have sh : ∀ l ∈ rows, l.length ≤ 1000 := fun l hl => by
    have := (R.line l hl).len
    have := R.s1
    omega
  have mi : iSeqC (eFld 0 2 (eFld 1 0 (eVar 0))) [some (standT size rows mine its), none] h = .ok (fun h => seqS h (rowsLT rows)) h := by
    unfold iSeqC
    rw [bfld2 (fld0 (v0 none))]
    rfl
  obtain ⟨E, hE⟩ : ∃ E : ME, E = eAnd (eCall m_is_live (aCons (eVar 1) (aCons (eFld 1 2 (eVar 0)) aNil))) (eOp TL.bEq (eCall m_rest_of (aCons (eVar 1) (aCons (eFld 1 1 (eVar 0)) aNil))) (eTup aNil)) := ⟨_, rfl⟩
  have ev : ∀ l ∈ rows, E [some (standT size rows mine its), some (lineT l)] h = .ok (.bl (liveB its l && decide (restL mine l = []))) h := fun l hl => by
    have A := (call_ok (b := m_is_live) (cons_ok (rfl : eVar 1 [some (standT size rows mine its), some (lineT l)] h = .ok (lineT l) h) (cons_ok (fld2 (v0 (some (lineT l)))) (rfl : aNil _ h = .ok [] h)))).trans (live_ok l its (sh l hl) h)
    have B := (call_ok (b := m_rest_of) (cons_ok (rfl : eVar 1 [some (standT size rows mine its), some (lineT l)] h = .ok (lineT l) h) (cons_ok (fld1 (v0 (some (lineT l)))) (rfl : aNil _ h = .ok [] h)))).trans (rest_ok l mine (sh l hl) h)
    have C := (op_ok (b := TL.bEq) (u := lineT []) B (rfl : eTup aNil [some (standT size rows mine its), some (lineT l)] h = .ok (lineT []) h)).trans (eq_line (restL mine l) [] h)
    rw [hE]
    exact hEand A fun _ => C
  have z := mLc_map (mi := iSeqC (eFld 0 2 (eFld 1 0 (eVar 0)))) (ws := [1]) (g := mgName 1) (e := E) (τ := [some (standT size rows mine its), none]) (h := h) (ts := rows.map lineT) mi rfl (by rw [List.length_map]; have := R.len; omega)
    (fun t => match E [some (standT size rows mine its), some t] h with | .ok u _ => u | _ => .non) (fun t ht => by
      obtain ⟨l, hl, rfl⟩ := List.mem_map.mp ht
      refine ⟨[some (standT size rows mine its), some (lineT l)], rfl, ?_⟩
      show _ = Res.ok (match E [some (standT size rows mine its), some (lineT l)] h with | .ok u _ => u | _ => T.non) h
      rw [ev l hl])
  have e : (rows.map lineT).map (fun t => match E [some (standT size rows mine its), some t] h with | .ok u _ => u | _ => T.non) = rows.map fun l => T.bl (liveB its l && decide (restL mine l = [])) := by
    rw [List.map_map]
    refine List.map_congr_left fun l hl => ?_
    show (match E [some (standT size rows mine its), some (lineT l)] h with | .ok u _ => u | _ => T.non) = _
    rw [ev l hl]
  rw [e] at z
  rw [← made_iff]
  have a := (call_ok (b := fAny) (τ := [some (standT size rows mine its), none]) (cons_ok (eL_ok z) (rfl : aNil _ h = .ok [] h))).trans (hAny rows (fun l => liveB its l && decide (restL mine l = [])) h)
  rw [hE] at a
  exact defM_rt rfl (ret_ok a)
/-! ### moves -/
theorem more_hand1 {c : Nat} (M : Hand size mine []) (hc : c ∈ freeL size mine its) : Hand size (moreL mine c) [] := by
  obtain ⟨c1, c2, c3⟩ := free_mem.mp hc
  refine ⟨srt_asc ?_, fun x hx => ?_, fun x _ z => by cases z⟩
  · rw [List.nodup_append]
    refine ⟨M.asc.imp fun h => Nat.ne_of_lt h, by simp, fun a ha b hb z => ?_⟩
    rw [List.mem_singleton.mp hb] at z
    exact c2 (z ▸ ha)
  · rcases more_mem.mp hx with q | rfl
    · exact M.lt x q
    · exact c1
theorem more_out {c : Nat} (I : Hand size its mine) (hc : c ∈ freeL size mine its) : Hand size its (moreL mine c) := by
  obtain ⟨c1, c2, c3⟩ := free_mem.mp hc
  refine ⟨I.asc, I.lt, fun x hx z => ?_⟩
  rcases more_mem.mp z with q | rfl
  · exact I.out x hx q
  · exact c3 hx
theorem behind1_ok {c : Nat} (s1 : size ≤ 30) (M : Hand size mine []) (I : Hand size its mine) (hc : c ∈ freeL size mine its) {h : VH} (hl : h.all (VO.lowR h.length) = true) :
    m_behind [standT size rows mine its, .str "first", .int (c : Nat)] h = .ok (standT size rows (moreL mine c) its) h := by
  obtain ⟨τ, hτ⟩ : ∃ τ, τ = startT 3 [standT size rows mine its, .str "first", .int (c : Nat)] := ⟨_, rfl⟩
  have v0 : eVar 0 τ h = .ok (standT size rows mine its) h := by rw [hτ]; rfl
  have v1 : eVar 1 τ h = .ok (.str "first") h := by rw [hτ]; rfl
  have v2 : eVar 2 τ h = .ok (.int (c : Nat)) h := by rw [hτ]; rfl
  have A := test_ok ((op_ok (b := TL.bEq) v1 (rfl : eK (.str "first") τ h = .ok (.str "first") h)).trans (TL.eq_strs _ _ h))
  rw [beq_self_eq_true] at A
  have B := more_ok (fld1 v0) v2 (by have := M.len; omega)
  have C := (call_ok (b := cutM (makeM 1 m_Stand___init__)) (cons_ok (fld0 v0) (cons_ok B (cons_ok (fld2 v0) (rfl : aNil τ h = .ok [] h))))).trans (stand_ok (rows := rows) (more_hand1 M hc) (more_out I hc) hl)
  show defM 3 3 s_behind _ _ = _
  rw [behind_eq]
  refine defM_rt rfl ?_
  rw [← hτ]
  exact seq_rt ((if_t A).trans (ret_ok C))
def handS (first : Bool) : Str := if first = true then (("first" : String) : Str) else (("second" : String) : Str)
theorem taken_ok {c : Nat} (first : Bool) (s1 : size ≤ 30) (M : Hand size mine []) (I : Hand size its mine) (hc : c ∈ freeL size mine its) {h : VH} (hl : h.all (VO.lowR h.length) = true) :
    m_Stand_taken [standT size rows mine its, .str (handS first), .int (c : Nat)] h = .ok (standT size rows (if first = true then moreL mine c else mine) (if first = true then its else moreL its c)) h := by
  have mv : m_check_mover [.str (handS first)] h = .ok .non h := by cases first <;> with_unfolding_all rfl
  have b : m_behind [standT size rows mine its, .str (handS first), .int (c : Nat)] h = .ok (standT size rows (if first = true then moreL mine c else mine) (if first = true then its else moreL its c)) h := by
    cases first with
    | true => exact behind1_ok s1 M I hc hl
    | false => exact behind2_ok s1 M I hc hl
  obtain ⟨τ, hτ⟩ : ∃ τ, τ = startT 3 [standT size rows mine its, .str (handS first), .int (c : Nat)] := ⟨_, rfl⟩
  have v0 : eVar 0 τ h = .ok (standT size rows mine its) h := by rw [hτ]; rfl
  have v1 : eVar 1 τ h = .ok (.str (handS first)) h := by rw [hτ]; rfl
  have v2 : eVar 2 τ h = .ok (.int (c : Nat)) h := by rw [hτ]; rfl
  have nil : aNil τ h = .ok [] h := rfl
  refine defM_rt rfl ?_
  rw [← hτ]
  exact (seq_nx (expr_ok ((call_ok (b := m_check_mover) (cons_ok v1 nil)).trans mv))).trans ((seq_nx (expr_ok ((call_ok (b := m_check_free) (cons_ok v0 (cons_ok v2 nil))).trans (chk_free hc h)))).trans (ret_ok ((call_ok (b := m_behind) (cons_ok v0 (cons_ok v1 (cons_ok v2 nil)))).trans b)))
end
end BD

set_option Elab.async false
set_option linter.all false
set_option maxRecDepth 100000
set_option maxHeartbeats 4000000
namespace BD
open PySem L2 TL K13 K06
/-! ### what a repr of lines is at most -/
theorem ints_show : ∀ {l : List Nat}, (∀ c ∈ l, c ≤ 1000) → PyData.showableAll (l.map fun c : Nat => PyData.int (c : Nat)) = true ∧ PyData.hasDictAll (l.map fun c : Nat => PyData.int (c : Nat)) = false ∧ wides (l.map fun c : Nat => PyData.int (c : Nat)) ≤ 14 * l.length
  | [], _ => ⟨rfl, rfl, Nat.le_refl _⟩
  | c :: l, h => by
    obtain ⟨a, b, d⟩ := ints_show fun x hx => h x (List.mem_cons_of_mem _ hx)
    have hc := h c List.mem_cons_self
    have lg : c.log2 ≤ 10 := by
      rcases Nat.lt_or_ge 10 c.log2 with z | z
      · have p : 2 ^ c.log2 ≤ c := Nat.log2_self_le (by rintro rfl; simp at z)
        have q : 2 ^ 11 ≤ 2 ^ c.log2 := Nat.pow_le_pow_right (by omega) z
        omega
      · exact z
    refine ⟨?_, ?_, ?_⟩
    · rw [List.map_cons]
      simp only [PyData.showableAll, PyData.showable, a, Bool.and_true]
      rw [Int.natAbs_natCast]
      exact decide_eq_true (by omega)
    · rw [List.map_cons]
      simp only [PyData.hasDictAll, PyData.hasDict, b, Bool.or_false]
    · rw [List.map_cons]
      simp only [wides, wide, List.length_cons]
      rw [Int.natAbs_natCast]
      omega
theorem line_show {l : List Nat} (h : ∀ c ∈ l, c ≤ 1000) : (lnD l).showable = true ∧ (lnD l).hasDict = false ∧ wide (lnD l) ≤ 14 * l.length + 3 := by
  obtain ⟨a, b, d⟩ := ints_show h
  refine ⟨?_, ?_, ?_⟩
  · simp only [PyData.showable, a]
  · simp only [PyData.hasDict, b]
  · simp only [wide]; omega
theorem lines_show {n : Nat} : ∀ {rs : List (List Nat)}, (∀ l ∈ rs, l.length ≤ n ∧ ∀ c ∈ l, c ≤ 1000) → PyData.showableAll (rs.map lnD) = true ∧ PyData.hasDictAll (rs.map lnD) = false ∧ wides (rs.map lnD) ≤ (14 * n + 5) * rs.length
  | [], _ => ⟨rfl, rfl, Nat.le_refl _⟩
  | l :: rs, h => by
    obtain ⟨a, b, d⟩ := lines_show fun x hx => h x (List.mem_cons_of_mem _ hx)
    obtain ⟨h1, h2⟩ := h l List.mem_cons_self
    obtain ⟨a2, b2, d2⟩ := line_show h2
    refine ⟨?_, ?_, ?_⟩
    · rw [List.map_cons]
      simp only [PyData.showableAll, a2, a, Bool.and_true]
    · rw [List.map_cons]
      simp only [PyData.hasDictAll, b2, b, Bool.or_false]
    · rw [List.map_cons]
      simp only [wides, List.length_cons, Nat.mul_add, Nat.mul_one]
      omega
theorem text_show {x : Str} (h : ∀ c ∈ tl x, c < 128) : wide (.str x) ≤ 10 * x.length + 2 := by
  show (reprText x).length ≤ _
  exact StrLaws.reprText_len x fun c hc => by
    have := h c hc
    have : (128 : Nat) < 16 ^ 8 := by decide
    omega
theorem board_mem {size : Nat} {rows : List (List Nat)} (R : Rows size rows) {c : Nat} (h : c ∈ tl (boardS size rows)) : c < 128 := by
  rw [board_eq, tl_append, tl_append, List.mem_append, List.mem_append] at h
  rcases h with (h | h) | h
  · have := num_dig R.s1 h
    omega
  · rw [show tl (":" : String) = [58] by decide +kernel] at h
    have := List.mem_singleton.mp h
    omega
  · unfold tailS at h
    split at h
    · rw [show tl ("" : String) = [] by decide +kernel] at h
      cases h
    · rw [tl_append, List.mem_append, show tl (" " : String) = [32] by decide +kernel] at h
      rcases h with h | h
      · have := List.mem_singleton.mp h
        omega
      · have := lines_mem R h
        omega
theorem stand_len {n : Nat} (hn : n ≤ 30) : (standS n).length ≤ 24 ∧ ∀ c ∈ tl (standS n), c < 128 := by
  have nl := num_len hn
  have a1 : (("Stand with " : String) : Str).length = 11 := by decide
  have a2 : ((" free cells" : String) : Str).length = 11 := by decide
  refine ⟨by unfold standS; rw [TL.len_app, TL.len_app]; omega, fun c hc => ?_⟩
  unfold standS at hc
  rw [tl_append, tl_append, List.mem_append, List.mem_append] at hc
  have b1 : (tl ("Stand with " : String)).all (fun c => decide (c < 128)) = true := by decide +kernel
  have b2 : (tl (" free cells" : String)).all (fun c => decide (c < 128)) = true := by decide +kernel
  rcases hc with (h | h) | h
  · exact of_decide_eq_true (List.all_eq_true.mp b1 c h)
  · have := num_dig hn h
    omega
  · exact of_decide_eq_true (List.all_eq_true.mp b2 c h)
theorem prs_lt (mine its : List Nat) : ∀ (ls : List (List Nat)) (k : Nat), ∀ p ∈ prs mine its k ls, p.1 < k + ls.length
  | [], _, p, h => by cases h
  | l :: ls, k, p, h => by
    have ih := prs_lt mine its ls (k + 1) p
    unfold prs at h
    rw [List.length_cons]
    split at h
    · rcases List.mem_cons.mp h with rfl | h
      · simp
      · have := ih h
        omega
    · have := ih h
      omega
theorem in_lines (r : List Nat) (rs : List (List Nat)) (h : VH) : TL.bIn (lineT r) (.lst (rs.map lineT)) h = .ok (.bl (decide (r ∈ rs))) h := by
  have e1 : T.dat h 11 (.lst (rs.map lineT)) = some (.list (rs.map lnD)) := by
    rw [dat_lst, lines_dat rs h 9]
    rfl
  have e2 : T.dat h 10 (lineT r) = some (lnD r) := line_dat r h 9
  have e3 : TL.bIn (lineT r) (.lst (rs.map lineT)) h = (match T.dat h 10 (lineT r), T.dat h 11 (.lst (rs.map lineT)) with
    | some d, some (.list ds) => Res.ok (.bl (false != ds.any fun z => PyData.eqv z d)) h
    | some d, some (.tuple ds) => .ok (.bl (false != ds.any fun z => PyData.eqv z d)) h
    | _, _ => .bad) := rfl
  rw [e3, e1, e2]
  simp only [any_lines, Bool.false_bne]
/-- numbers of a range that pass a test -/
theorem rgf_ok (p : Nat → Bool) {g : MA} {c : MB} {j K : Nat} {τ : TS_} {h : VH} (hm : iRange1 g τ h = .ok (fun _ => some (rangeT 0 K)) h) (hK : K ≤ 100000) (hc : ∀ i, i < K → c ((wipeT τ [j]).set j (some (nI i))) h = .ok (p i) h) (hj : ∀ t, eVar j ((wipeT τ [j]).set j (some t)) h = .ok t h) :
    eL (mLc (iRange1 g) [j] (mgName j) c (eVar j)) τ h = .ok (.lst (((List.range K).filter p).map nI)) h := by
  have z := mLc_pure (mi := iRange1 g) (ws := [j]) (g := mgName j) (c := c) (e := eVar j) (τ := τ) (h := h) (ts := rangeT 0 K) hm rfl (by rw [range_len]; omega) (fun t => match t with | .int i => p i.toNat | _ => false) (fun t => t) (fun t ht => by
    obtain ⟨i, hi, rfl⟩ := List.getElem_of_mem ht
    obtain ⟨hi2, ei⟩ := range_at hi
    rw [ei, Int.zero_add]
    exact ⟨_, rfl, hc i hi2, fun _ => hj _⟩)
  rw [range_nI, List.map_id', List.filter_map] at z
  exact eL_ok z
section
variable {size : Nat} {rows : List (List Nat)} {mine its : List Nat}
/-- all that a stand shows -/
def shD (size : Nat) (rows : List (List Nat)) (mine its : List Nat) : PyData :=
  .list [.str (boardS size rows), lnD mine, lnD its, lnD (freeL size mine its), lnD (liveL rows mine its), .tuple ((restsL rows mine its).map lnD), .bool (decide ([] ∈ restsL rows mine its)), .str (standS (freeL size mine its).length), .bool true]
abbrev shT (size : Nat) (rows : List (List Nat)) (mine its : List Nat) : List T :=
  [.str (boardS size rows), lineT mine, lineT its, lineT (freeL size mine its), lineT (liveL rows mine its), restsT (restsL rows mine its), .bl (decide ([] ∈ restsL rows mine its)), .str (standS (freeL size mine its).length), .bl true]
theorem show_ok (R : Rows size rows) (M : Hand size mine []) (I : Hand size its mine) (h : VH) : fRepr [.lst (shT size rows mine its)] h = .ok (.str (shD size rows mine its).shown) h := by
  have s1 := R.s1
  have fl := free_len (mine := mine) (its := its) R
  have e : T.dat h 10 (.lst (shT size rows mine its)) = some (shD size rows mine its) := by
    have d6 : T.dat h 9 (restsT (restsL rows mine its)) = some (.tuple ((restsL rows mine its).map lnD)) := by
      unfold restsT
      rw [dat_tup, lines_dat _ h 7]
      rfl
    rw [dat_lst]
    simp only [List.mapM_cons, List.mapM_nil, dat_str, dat_bl, line_dat mine h 8, line_dat its h 8, line_dat (freeL size mine its) h 8, line_dat (liveL rows mine its) h 8, d6, Option.pure_def, Option.bind_eq_bind, Option.bind_some, Option.map_some]
    rfl
  obtain ⟨a1, b1, c1⟩ := line_show (l := mine) fun c hc => by have := M.lt c hc; omega
  obtain ⟨a2, b2, c2⟩ := line_show (l := its) fun c hc => by have := I.lt c hc; omega
  obtain ⟨a3, b3, c3⟩ := line_show (l := freeL size mine its) fun c hc => by have := (free_mem.mp hc).1; omega
  have ll := live_len (mine := mine) (its := its) R
  have rl := R.len
  obtain ⟨a4, b4, c4⟩ := line_show (l := liveL rows mine its) fun c hc => by
    obtain ⟨p, hp, rfl⟩ := List.mem_map.mp hc
    have := prs_lt mine its rows 0 p hp
    omega
  obtain ⟨a5, b5, c5⟩ := lines_show (n := 30) (rs := restsL rows mine its) fun l hl => by
    have h1 := rest_le R hl
    obtain ⟨_, h2⟩ := rest_mem R hl
    exact ⟨by omega, fun c hc => by have := (free_mem.mp (h2 c hc)).1; omega⟩
  have rsl := rests_len (mine := mine) (its := its) R
  have ml := M.len
  have il := I.len
  have t1 := text_show (x := boardS size rows) fun c hc => board_mem R hc
  have bl := board_len R
  obtain ⟨sl, sm⟩ := stand_len (n := (freeL size mine its).length) fl
  have t2 := text_show sm
  have ll2 : (liveL rows mine its).length ≤ 30 := by unfold liveL; rw [List.length_map]; exact ll
  have q : wides ((restsL rows mine its).map lnD) ≤ 425 * 30 := Nat.le_trans c5 (Nat.mul_le_mul_left _ rsl)
  refine repr_ok e ?_ ?_ ?_
  · unfold shD
    simp only [PyData.showable, PyData.showableAll, a5, Bool.true_and, Bool.and_true]
    simp only [PyData.showable] at a1 a2 a3 a4
    simp only [a1, a2, a3, a4, Bool.and_true]
  · unfold shD
    simp only [PyData.hasDict, PyData.hasDictAll, b5, Bool.false_or, Bool.or_false]
    simp only [PyData.hasDict] at b1 b2 b3 b4
    simp only [b1, b2, b3, b4, Bool.or_false]
  · unfold shD
    simp only [wide, wides] at *
    omega
end
end BD

set_option Elab.async false
set_option linter.all false
set_option maxRecDepth 100000
set_option maxHeartbeats 4000000
namespace BD
open PySem L2 TL K13 K06
section
variable {size : Nat} {rows : List (List Nat)} {mine its : List Nat}
def is5 : MS := (sSet 5 (eCall fTuple (aCons (eL (mLc (iRange1 (aCons (eVar 1) aNil)) [6] (mgName 6) (TL.bAnd (bTest (eOp TL.bNin (eVar 6) (eVar 3))) (bTest (eOp TL.bNin (eVar 6) (eVar 4)))) (eVar 6))) aNil)))
def is7 : MS := (sSet 7 (eCall m_law_rests (aCons (eVar 2) (aCons (eVar 3) (aCons (eVar 4) aNil)))))
def is8 : MS := (sSet 8 (eL (aLim (aCons (eCall (fOwn1 0 m_Board___str__) (aCons (eProp 1 m_Stand_board (eVar 0)) aNil)) (aCons (eProp 1 m_Stand_first (eVar 0)) (aCons (eProp 1 m_Stand_second (eVar 0)) (aCons (eProp 1 m_Stand_free (eVar 0)) (aCons (eProp 1 m_Stand_live (eVar 0)) (aCons (eProp 1 m_Stand_rests (eVar 0)) (aCons (eProp 1 m_Stand_is_made (eVar 0)) (aCons (eCall (fOwn1 1 m_Stand___repr__) (aCons (eVar 0) aNil)) aNil)))))))))))
def isR (i : Int) : ME := (eL (mLc (iSeqC (eVar 7)) [10] (mgName 10) bYes (eOp TL.bIx (eVar 10) (eK (.int i)))))
def is9 : MS := (sSet 9 (eL (aLim (aCons (eCall m_law_word_of (aCons (eVar 1) (aCons (eVar 2) aNil))) (aCons (eVar 3) (aCons (eVar 4) (aCons (eVar 5) (aCons (eCall fTuple (aCons (isR 0) aNil)) aNil))))))))
def is9b : MS := (sSet 9 (eOp TL.bAdd (eVar 9) (eL (aLim (aCons (eCall fTuple (aCons (isR 1) aNil)) (aCons (eOp TL.bIn (eTup aNil) (isR 1)) aNil))))))
def isE : MS := (sRet (eOp TL.bEq (eCall fRepr (aCons (eOp TL.bAdd (eVar 8) (eL (aLim (aCons (eCall (fBoolO 1) (aCons (eVar 0) aNil)) aNil)))) aNil)) (eCall fRepr (aCons (eOp TL.bAdd (eVar 9) (eL (aLim (aCons (eOp TL.bAdd (eOp TL.bAdd (eK (.str "Stand with ")) (eCall fStr (aCons (eCall fLen (aCons (eVar 5) aNil)) aNil))) (eK (.str " free cells"))) (aCons (eK (.bl true)) aNil))))) aNil))))
theorem is_eq : s_law_is = sSeq is5 (sSeq is7 (sSeq is8 (sSeq is9 (sSeq is9b isE)))) := rfl
abbrev isF (size : Nat) (rows : List (List Nat)) (mine its : List Nat) (a5 a6 a7 a8 a9 a10 : Option T) : TS_ := [some (standT size rows mine its), some (nI size), some (rowsLT rows), some (lineT mine), some (lineT its), a5, a6, a7, a8, a9, a10]
theorem isR_ok {τ : TS_} {h : VH} {L : Nat} {ps : List (Nat × List Nat)} (hL : h[L]? = some (.lst (ps.map prT))) (ll : ps.length ≤ 1000) (v7 : τ[7]? = some (some (.ref L))) (ln : τ.length = 11) (i : Int) (f : Nat × List Nat → T) (hf : ∀ p, TL.bIx (prT p) (.int i) h = .ok (f p) h) :
    isR i τ h = .ok (.lst (ps.map f)) h := by
  have sq : seqS h (.ref L) = some (ps.map prT) := by simp [seqS, TL.seqOf, TL.listOf, hL]
  have mi : iSeqC (eVar 7) τ h = .ok (fun h => seqS h (.ref L)) h := by
    have v : eVar 7 τ h = .ok (.ref L) h := by unfold eVar; rw [v7]
    unfold iSeqC
    rw [v]
    simp only [walkable, sq, Option.isSome_some, if_true]
  have z := mLc_map (mi := iSeqC (eVar 7)) (ws := [10]) (g := mgName 10) (e := eOp TL.bIx (eVar 10) (eK (.int i))) (τ := τ) (h := h) (ts := ps.map prT) mi sq (by rw [List.length_map]; omega) (fun t => match TL.bIx t (.int i) h with | .ok u _ => u | _ => .non) (fun u hu => by
    obtain ⟨p, _, rfl⟩ := List.mem_map.mp hu
    refine ⟨_, rfl, ?_⟩
    have v : eVar 10 ((wipeT τ [10]).set 10 (some (prT p))) h = .ok (prT p) h := by
      unfold eVar
      rw [show ((wipeT τ [10]).set 10 (some (prT p)))[10]? = some (some (prT p)) from List.getElem?_set_self (by show 10 < (τ.set 10 none).length; rw [List.length_set, ln]; omega)]
    refine (op_ok (b := TL.bIx) v rfl).trans ?_
    rw [hf p])
  rw [List.map_map] at z
  refine (eL_ok z).trans (congrArg (fun l => Res.ok (T.lst l) h) (List.map_congr_left fun p _ => ?_))
  show (match TL.bIx (prT p) (.int i) h with | .ok u _ => u | _ => T.non) = f p
  rw [hf p]
theorem addT {a b : List T} (h : VH) (hl : a.length + b.length ≤ 1000) : TL.bAdd (.lst a) (.lst b) h = .ok (.lst (a ++ b)) h := by
  simp only [TL.bAdd, TL.listOf]
  rw [if_pos (by omega)]
theorem two_okT {f g : ME} {τ : TS_} {h : VH} {t u : T} (e : f τ h = .ok t h) (e2 : g τ h = .ok u h) : eL (aLim (aCons f (aCons g aNil))) τ h = .ok (.lst [t, u]) h := eL_ok (lim_ok (cons_ok e (cons_ok e2 rfl)) (by simp))
theorem law_is_ok (R : Rows size rows) (M : Hand size mine []) (I : Hand size its mine) (h : VH) :
    m_law_is [standT size rows mine its, nI size, rowsLT rows, lineT mine, lineT its] h = .ok (.bl true) (h ++ [.lst ((prs mine its 0 rows).map prT)]) := by
  have s1 := R.s1
  have few := R.len
  have fl := free_len (mine := mine) (its := its) R
  have ll := live_len (mine := mine) (its := its) R
  obtain ⟨L, hL⟩ : ∃ L, L = h.length := ⟨_, rfl⟩
  obtain ⟨k, hk⟩ : ∃ k, k = h ++ [VO.lst ((prs mine its 0 rows).map prT)] := ⟨_, rfl⟩
  have at_ : k[L]? = some (.lst ((prs mine its 0 rows).map prT)) := by rw [hk, hL]; simp
  have S5 : is5 (isF size rows mine its none none none none none none) h = .nx (isF size rows mine its (some (lineT (freeL size mine its))) none none none none none) h := by
    have z := rgf_ok (fun c => !decide (c ∈ mine) && !decide (c ∈ its)) (g := aCons (eVar 1) aNil) (c := TL.bAnd (bTest (eOp TL.bNin (eVar 6) (eVar 3))) (bTest (eOp TL.bNin (eVar 6) (eVar 4)))) (j := 6) (K := size) (τ := isF size rows mine its none none none none none none) (h := h) (rngk (cons_ok rfl rfl) (by omega)) (by omega) (fun i _ => hAnd (test_ok ((op_ok (b := TL.bNin) (rfl : eVar 6 _ h = .ok (nI i) h) (rfl : eVar 3 _ h = .ok (lineT mine) h)).trans (nin_line i mine h))) fun _ => test_ok ((op_ok (b := TL.bNin) (rfl : eVar 6 _ h = .ok (nI i) h) (rfl : eVar 4 _ h = .ok (lineT its) h)).trans (nin_line i its h))) (fun t => rfl)
    exact (set_ok (i := 5) (tupLine z)).trans rfl
  have S7 : is7 (isF size rows mine its (some (lineT (freeL size mine its))) none none none none none) h = .nx (isF size rows mine its (some (lineT (freeL size mine its))) none (some (.ref L)) none none none) k := by
    have Q := law_rests_ok (rows := rows) (mine := mine) (its := its) (by omega) (fun l hl => by have := (R.line l hl).len; omega) h
    rw [← hk, ← hL] at Q
    exact (set_ok (i := 7) ((call_ok (b := m_law_rests) (ts := [rowsLT rows, lineT mine, lineT its]) rfl).trans Q)).trans rfl
  obtain ⟨τ, hτ⟩ : ∃ τ, τ = isF size rows mine its (some (lineT (freeL size mine its))) none (some (.ref L)) none none none := ⟨_, rfl⟩
  have v0 : eVar 0 τ k = .ok (standT size rows mine its) k := by rw [hτ]; rfl
  have nil : ∀ τ : TS_, aNil τ k = .ok [] k := fun _ => rfl
  have S8 : is8 τ k = .nx (isF size rows mine its (some (lineT (freeL size mine its))) none (some (.ref L)) (some (.lst ((shT size rows mine its).take 8))) none none) k := by
    have a1 := (call_ok (b := fOwn1 0 m_Board___str__) (cons_ok (prop1 v0 (sboard_ok k)) (nil τ))).trans (bstr_ok k)
    have a8 := (call_ok (b := fOwn1 1 m_Stand___repr__) (cons_ok v0 (nil τ))).trans (srepr_ok (rows := rows) s1 M I k)
    have A := cons_ok a1 (cons_ok (prop1 v0 (sfirst_ok k)) (cons_ok (prop1 v0 (ssecond_ok k)) (cons_ok (pFree (by omega) v0) (cons_ok (prop1 v0 (slive_ok R k)) (cons_ok (pRests R v0) (cons_ok (prop1 v0 (smade_ok R k)) (cons_ok a8 (nil τ))))))))
    refine (set_ok (i := 8) (eL_ok (lim_ok A (by simp)))).trans ?_
    rw [hτ]
    rfl
  obtain ⟨τ2, hτ2⟩ : ∃ τ2, τ2 = isF size rows mine its (some (lineT (freeL size mine its))) none (some (.ref L)) (some (.lst ((shT size rows mine its).take 8))) none none := ⟨_, rfl⟩
  have R0 : isR 0 τ2 k = .ok (.lst ((liveL rows mine its).map nI)) k := by
    have := isR_ok (τ := τ2) at_ (by omega) (by rw [hτ2]; rfl) (by rw [hτ2]; rfl) 0 (fun p => nI p.1) (fun p => rfl)
    rw [this]
    unfold liveL
    rw [List.map_map]
    rfl
  have S9 : is9 τ2 k = .nx (isF size rows mine its (some (lineT (freeL size mine its))) none (some (.ref L)) (some (.lst ((shT size rows mine its).take 8))) (some (.lst ((shT size rows mine its).take 5))) none) k := by
    have w1 : eVar 1 τ2 k = .ok (nI size) k := by rw [hτ2]; rfl
    have w2 : eVar 2 τ2 k = .ok (rowsLT rows) k := by rw [hτ2]; rfl
    have w3 : eVar 3 τ2 k = .ok (lineT mine) k := by rw [hτ2]; rfl
    have w4 : eVar 4 τ2 k = .ok (lineT its) k := by rw [hτ2]; rfl
    have w5 : eVar 5 τ2 k = .ok (lineT (freeL size mine its)) k := by rw [hτ2]; rfl
    have a1 := (call_ok (b := m_law_word_of) (cons_ok w1 (cons_ok w2 (nil τ2)))).trans (word_ok R k)
    have A := cons_ok a1 (cons_ok w3 (cons_ok w4 (cons_ok w5 (cons_ok (tupLine R0) (nil τ2)))))
    refine (set_ok (i := 9) (eL_ok (lim_ok A (by simp)))).trans ?_
    rw [hτ2]
    rfl
  obtain ⟨τ3, hτ3⟩ : ∃ τ3, τ3 = isF size rows mine its (some (lineT (freeL size mine its))) none (some (.ref L)) (some (.lst ((shT size rows mine its).take 8))) (some (.lst ((shT size rows mine its).take 5))) none := ⟨_, rfl⟩
  have R1 : isR 1 τ3 k = .ok (.lst ((restsL rows mine its).map lineT)) k := by
    have := isR_ok (τ := τ3) at_ (by omega) (by rw [hτ3]; rfl) (by rw [hτ3]; rfl) 1 (fun p => lineT p.2) (fun p => rfl)
    rw [this, ← prs_snd mine its rows 0, List.map_map]
    rfl
  have S9b : is9b τ3 k = .nx (isF size rows mine its (some (lineT (freeL size mine its))) none (some (.ref L)) (some (.lst ((shT size rows mine its).take 8))) (some (.lst ((shT size rows mine its).take 7))) none) k := by
    have w9 : eVar 9 τ3 k = .ok (.lst ((shT size rows mine its).take 5)) k := by rw [hτ3]; rfl
    have a1 : eCall fTuple (aCons (isR 1) aNil) τ3 k = .ok (restsT (restsL rows mine its)) k := (call_ok (b := fTuple) (cons_ok R1 (nil τ3))).trans rfl
    have a2 := (op_ok (b := TL.bIn) (t := lineT []) (rfl : eTup aNil τ3 k = .ok (lineT []) k) R1).trans (in_lines [] (restsL rows mine its) k)
    have A := (op_ok (b := TL.bAdd) w9 (two_okT a1 a2)).trans (addT k (by simp))
    refine (set_ok (i := 9) A).trans ?_
    rw [hτ3]
    rfl
  obtain ⟨τ4, hτ4⟩ : ∃ τ4, τ4 = isF size rows mine its (some (lineT (freeL size mine its))) none (some (.ref L)) (some (.lst ((shT size rows mine its).take 8))) (some (.lst ((shT size rows mine its).take 7))) none := ⟨_, rfl⟩
  have SE : isE τ4 k = .rt (.bl true) k := by
    have w0 : eVar 0 τ4 k = .ok (standT size rows mine its) k := by rw [hτ4]; rfl
    have w5 : eVar 5 τ4 k = .ok (.tup ((freeL size mine its).map nI)) k := by rw [hτ4]; rfl
    have w8 : eVar 8 τ4 k = .ok (.lst ((shT size rows mine its).take 8)) k := by rw [hτ4]; rfl
    have w9 : eVar 9 τ4 k = .ok (.lst ((shT size rows mine its).take 7)) k := by rw [hτ4]; rfl
    have b1 : eCall (fBoolO 1) (aCons (eVar 0) aNil) τ4 k = .ok (.bl true) k := (call_ok (b := fBoolO 1) (cons_ok w0 (nil τ4))).trans rfl
    have X := (op_ok (b := TL.bAdd) w8 (eL_ok (lim_ok (cons_ok b1 (nil τ4)) (by simp)))).trans (addT k (by simp))
    have Ln := hLenT w5
    rw [List.length_map] at Ln
    have F := (call_ok (b := fStr) (cons_ok Ln (nil τ4))).trans (fStr_num fl k)
    have nl := num_len fl
    have a1 : (("Stand with " : String) : Str).length = 11 := by decide
    have a2 : ((" free cells" : String) : Str).length = 11 := by decide
    have S1 := (op_ok (b := TL.bAdd) (rfl : eK (.str "Stand with ") τ4 k = .ok (.str "Stand with ") k) F).trans (hAppS (by omega))
    have S2 := (op_ok (b := TL.bAdd) S1 (rfl : eK (.str " free cells") τ4 k = .ok (.str " free cells") k)).trans (hAppS (by rw [TL.len_app]; omega))
    have Yy := (op_ok (b := TL.bAdd) w9 (two_okT S2 (rfl : eK (.bl true) τ4 k = .ok (.bl true) k))).trans (addT k (by simp))
    have P := show_ok R M I k
    have r1 := (call_ok (b := fRepr) (cons_ok X (nil τ4))).trans P
    have r2 := (call_ok (b := fRepr) (cons_ok Yy (nil τ4))).trans P
    refine ret_ok ((op_ok (b := TL.bEq) r1 r2).trans ?_)
    rw [TL.eq_strs, beq_self_eq_true]
  rw [hτ] at S8
  rw [hτ2] at S9
  rw [hτ3] at S9b
  rw [hτ4] at SE
  show defM 11 5 s_law_is _ _ = _
  rw [is_eq, ← hk]
  exact defM_rt rfl ((seq_nx S5).trans ((seq_nx S7).trans ((seq_nx S8).trans ((seq_nx S9).trans ((seq_nx S9b).trans SE)))))
end
end BD

set_option Elab.async false
set_option linter.all false
set_option maxRecDepth 100000
set_option maxHeartbeats 4000000
namespace BD
open PySem L2 TL K13 K06
theorem or_f {c d : MB} {τ : TS_} {h h1 : VH} (e : c τ h = .ok false h1) : TL.bOr c d τ h = d τ h1 := by unfold TL.bOr; simp only [e]
theorem not_ok {c : MB} {τ : TS_} {h h1 : VH} {p : Bool} (e : c τ h = .ok p h1) : TL.bNot c τ h = .ok (!p) h1 := by unfold TL.bNot; simp only [e]
/-- a loop that may end early -/
theorem forL_brk {rd : VH → Option (List T)} {g : MG} {body : MS} {ts : List T} (I : Nat → TS_ → VH → Prop) (F : TS_ → VH → Prop) (hF : ∀ τ h, I ts.length τ h → F τ h) (hrd : ∀ i τ h, I i τ h → rd h = some ts)
    (step : ∀ i (hi : i < ts.length) τ h, I i τ h → ∃ τ1 h1 τ2 h2, g ts[i] τ h = .ok τ1 h1 ∧ ((body τ1 h1 = .nx τ2 h2 ∧ I (i + 1) τ2 h2) ∨ (body τ1 h1 = .bk τ2 h2 ∧ F τ2 h2))) :
    ∀ (k i : Nat) τ h, i + k = ts.length → I i τ h → ∃ τ' h', forL rd g body ts.length k i τ h = .nx τ' h' ∧ F τ' h' := by
  intro k
  induction k with
  | zero =>
    intro i τ h hi hI
    have e : i = ts.length := by omega
    subst e
    exact ⟨τ, h, by simp [forL, hrd _ _ _ hI], hF _ _ hI⟩
  | succ k ih =>
    intro i τ h hi hI
    have hlt : i < ts.length := by omega
    have e1 : ts[i]? = some ts[i] := List.getElem?_eq_getElem hlt
    obtain ⟨τ1, h1, τ2, h2, a, b⟩ := step i hlt τ h hI
    rcases b with ⟨b, c⟩ | ⟨b, c⟩
    · obtain ⟨τ', h', q1, q2⟩ := ih (i + 1) τ2 h2 (by omega) c
      exact ⟨τ', h', by simp [forL, hrd _ _ _ hI, e1, a, b, q1], q2⟩
    · exact ⟨τ2, h2, by simp [forL, hrd _ _ _ hI, e1, a, b], c⟩
theorem sFor_brk {mi : MI} {g : MG} {body : MS} {τ : TS_} {h h1 : VH} {rd : VH → Option (List T)} {ts : List T} (I : Nat → TS_ → VH → Prop) (F : TS_ → VH → Prop) (hF : ∀ τ h, I ts.length τ h → F τ h) (hm : mi τ h = .ok rd h1) (h0 : I 0 τ h1) (hrd : ∀ i τ h, I i τ h → rd h = some ts)
    (step : ∀ i (hi : i < ts.length) τ h, I i τ h → ∃ τ1 h1 τ2 h2, g ts[i] τ h = .ok τ1 h1 ∧ ((body τ1 h1 = .nx τ2 h2 ∧ I (i + 1) τ2 h2) ∨ (body τ1 h1 = .bk τ2 h2 ∧ F τ2 h2))) :
    ∃ τ' h', sFor mi g body τ h = .nx τ' h' ∧ F τ' h' := by
  obtain ⟨τ', h', q1, q2⟩ := forL_brk I F hF hrd step ts.length 0 τ h1 (by omega) h0
  exact ⟨τ', h', by simp [sFor, hm, hrd _ _ _ h0, q1], q2⟩
theorem pick_ok {n : Nat} {h : VH} (I : Iv n h) {ts : List T} (ne : 0 < ts.length) (few : ts.length ≤ 1000) :
    ∃ (r : Nat) (hr : r < ts.length) (o : VO), m_law_pick [.ref n, .lst ts] h = .ok ts[r] (h.set n o) ∧ IsP o := by
  obtain ⟨c, o, e, lt, io⟩ := draw_ok (k := (ts.length : Nat)) I (by omega) (by omega)
  have hr : c < ts.length := by omega
  refine ⟨c, hr, o, ?_, io⟩
  obtain ⟨τ, hτ⟩ : ∃ τ, τ = startT 2 [T.ref n, .lst ts] := ⟨_, rfl⟩
  have v0 : eVar 0 τ h = .ok (.ref n) h := by rw [hτ]; rfl
  have v1 : eVar 1 τ h = .ok (.lst ts) h := by rw [hτ]; rfl
  have L := hLenL v1
  have D := (call_ok (b := m_law_draw) (cons_ok v0 (cons_ok L (rfl : aNil τ h = .ok [] h)))).trans e
  have X := op_ok (b := TL.bIx) v1 D
  have at_ : atI ts ((c : Nat) : Int) = some ts[c] := by rw [ix_nn (by omega) (by omega), Int.toNat_natCast, List.getElem?_eq_getElem hr]
  have Z : TL.bIx (.lst ts) (.int (c : Nat)) (h.set n o) = .ok ts[c] (h.set n o) := by
    simp only [TL.bIx, TL.listOf, at_]
  refine defM_rt rfl ?_
  rw [← hτ]
  exact ret_ok (X.trans Z)
theorem addHand {f g : ME} {τ : TS_} {h : VH} {l : List Nat} {c : Nat} (e : f τ h = .ok (lineT l) h) (e2 : g τ h = .ok (nI c) h) (hl : l.length ≤ 1000) :
    eCall fTuple (aCons (eL (mCall fSortedS (aCons (eOp TL.bAdd f (eTup (aCons g aNil))) aNil))) aNil) τ h = .ok (lineT (moreL l c)) h := by
  have t1 : eTup (aCons g aNil) τ h = .ok (lineT [c]) h := by
    unfold eTup
    rw [cons_ok e2 (rfl : aNil τ h = .ok [] h)]
    rfl
  have A : eOp TL.bAdd f (eTup (aCons g aNil)) τ h = .ok (.tup ((l ++ [c]).map fun c => T.int (c : Nat))) h := by
    refine (op_ok (b := TL.bAdd) e t1).trans ?_
    rw [List.map_append]
    exact if_pos (by rw [List.length_map, List.length_map]; simp; omega)
  have C : mCall fSortedS (aCons (eOp TL.bAdd f (eTup (aCons g aNil))) aNil) τ h = .ok ((moreL l c).map fun c => T.int (c : Nat)) h := by
    unfold mCall
    rw [cons_ok A (rfl : aNil τ h = .ok [] h)]
    exact (show fSortedS [.tup ((l ++ [c]).map fun c => T.int (c : Nat))] h = fSorted [.lst ((l ++ [c]).map fun c => T.int (c : Nat))] h from rfl).trans (sorted_ints rfl)
  exact (call_ok (b := fTuple) (cons_ok (eL_ok C) rfl)).trans rfl
def k1 : MS := (sSet 9 (eL (mLc (iRange1 (aCons (eVar 2) aNil)) [10] (mgName 10) (TL.bAnd (bTest (eOp TL.bNin (eVar 10) (eVar 5))) (bTest (eOp TL.bNin (eVar 10) (eVar 6)))) (eVar 10))))
def k2 : MS := (sIf (bTest (eOp TL.bEq (eVar 9) (eL (aLim aNil)))) sBrk sNil)
def k3 : MS := (sPar 10 11 (aCons (eCall m_law_pick (aCons (eVar 0) (aCons (eVar 9) aNil))) (aCons (eCall m_law_pick (aCons (eVar 0) (aCons (eL (aLim (aCons (eK (.str "first")) (aCons (eK (.str "second")) aNil)))) aNil))) aNil)))
def k4 : MS := (sSet 12 (eIf (bTest (eOp TL.bGt (eVar 8) (eK (.int 0)))) (eMeth 1 m_Stand_taken (eVar 7) (aCons (eVar 11) (aCons (eVar 10) aNil))) (eMeth 1 m_Stand_taken (eVar 7) (aPerm [1, 0] (aCons (eVar 10) (aCons (eVar 11) aNil))))))
def isC : MB := (bTest (eCall m_law_is (aCons (eVar 7) (aCons (eVar 2) (aCons (eVar 3) (aCons (eVar 5) (aCons (eVar 6) aNil)))))))
def kNo : MS := (sRet (eK (.bl false)))
def k5 : MS := (sIf (TL.bOr (TL.bNot isC) (bTest (eOp (bEqO 1 false m_Stand___eq__) (eVar 12) (eVar 7)))) kNo sNil)
def k6 : MS := (sIf (bTest (eOp TL.bEq (eVar 11) (eK (.str "first")))) (sSet 5 (eCall fTuple (aCons (eL (mCall fSortedS (aCons (eOp TL.bAdd (eVar 5) (eTup (aCons (eVar 10) aNil))) aNil))) aNil))) (sSet 6 (eCall fTuple (aCons (eL (mCall fSortedS (aCons (eOp TL.bAdd (eVar 6) (eTup (aCons (eVar 10) aNil))) aNil))) aNil))))
def k7 : MS := (sSet 7 (eVar 12))
def k8 : MS := (sIf (TL.bNot isC) kNo sNil)
def kB : MS := sSeq k1 (sSeq k2 (sSeq k3 (sSeq k4 (sSeq k5 (sSeq k6 (sSeq k7 k8))))))
def kMake : ME := (eCall (cutM (makeM 1 m_Stand___init__)) (aCons (eVar 4) (aCons (eVar 5) (aCons (eVar 6) aNil))))
def kSwap : ME := (eCall (cutM (makeM 1 m_Stand___init__)) (aCons (eVar 4) (aCons (eVar 6) (aCons (eVar 5) aNil))))
def q1 : MS := (sAsg (eCall m_law_board (aCons (eVar 0) aNil)) (mgTup 2 (mgsCons (mgName 2) (mgsCons (mgName 3) mgsNil))))
def q2 : MS := (sSet 4 (eCall (cutM (makeM 0 m_Board___init__)) (aCons (eCall m_law_word_of (aCons (eVar 2) (aCons (eVar 3) aNil))) aNil)))
def q3 : MS := (sAsg (eCall m_law_hands (aCons (eVar 0) (aCons (eVar 2) (aCons (eK (.int 3)) aNil)))) (mgTup 2 (mgsCons (mgName 5) (mgsCons (mgName 6) mgsNil))))
def q4 : MS := (sSet 7 (eIf (bTest (eOp TL.bEq (eVar 1) (eK (.int 0)))) (eCall (cutM (makeM 1 m_Stand___init__)) (aPerm [2, 1, 0] (aCons (eVar 6) (aCons (eVar 5) (aCons (eVar 4) aNil))))) kMake))
def q5 : MS := (sIf (TL.bOr (TL.bNot isC) (bTest (eOp (bEqO 1 true m_Stand___eq__) (eVar 7) kMake))) kNo sNil)
def q6 : MS := (sFor (iRange1 (aCons (eK (.int 6)) aNil)) (mgName 8) kB)
def q7 : MS := (sIf (TL.bAnd (bTest (eOp TL.bNe (eVar 5) (eVar 6))) (TL.bOr (bTest (eOp (bEqO 1 false m_Stand___eq__) (eVar 7) kSwap)) (TL.bNot (bTest (eOp (bEqO 1 true m_Stand___eq__) (eVar 7) kSwap))))) kNo sNil)
def q8I : MI := (iSeqC (eL (aLim (aCons (eK .non) (aCons (eK (.int 0)) (aCons (eVar 5) (aCons (eL (aLim (aCons (eVar 7) aNil))) (aCons (eVar 4) (aCons eDNew aNil)))))))))
def q8B : MS := (sIf (TL.bOr (bTest (eOp (bEqO 1 false m_Stand___eq__) (eVar 7) (eVar 13))) (TL.bNot (bTest (eOp (bEqO 1 true m_Stand___eq__) (eVar 7) (eVar 13))))) kNo sNil)
def q8 : MS := (sFor q8I (mgName 13) q8B)
theorem K06right_eq : K06.s_law_right = sSeq (sFor (iRange1 (aCons (eK (.int 3)) aNil)) (mgName 1) (sSeq q1 (sSeq q2 (sSeq q3 (sSeq q4 (sSeq q5 (sSeq q6 (sSeq q7 q8)))))))) (sRet (eK (.bl true))) := rfl
section
variable {n t size : Nat} {rows : List (List Nat)} {mine its : List Nat}
abbrev kF (n t size : Nat) (rows : List (List Nat)) (mine its : List Nat) (pose : Option T) (a8 a9 a10 a11 a12 a13 : Option T) : TS_ := [some (.ref n), some (nI t), some (nI size), some (rowsLT rows), some (boardT size rows), some (lineT mine), some (lineT its), pose, a8, a9, a10, a11, a12, a13]
theorem isC_ok (R : Rows size rows) (M : Hand size mine []) (I : Hand size its mine) {h : VH} (V : Iv n h) (a8 a9 a10 a11 a12 a13 : Option T) :
    ∃ h', isC (kF n t size rows mine its (some (standT size rows mine its)) a8 a9 a10 a11 a12 a13) h = .ok true h' ∧ Iv n h' := by
  refine ⟨_, test_ok ((call_ok (b := m_law_is) (ts := [standT size rows mine its, nI size, rowsLT rows, lineT mine, lineT its]) rfl).trans (law_is_ok R M I h)), V.app (prs_low _)⟩
theorem kB_ok (R : Rows size rows) (M : Hand size mine []) (I : Hand size its mine) {h : VH} (V : Iv n h) (k : Nat) (a9 a10 a11 a12 a13 : Option T) :
    (∃ τ' h', kB (kF n t size rows mine its (some (standT size rows mine its)) (some (nI k)) a9 a10 a11 a12 a13) h = .bk τ' h' ∧ Iv n h' ∧ ∃ a8 a9 a10 a11 a12 a13, τ' = kF n t size rows mine its (some (standT size rows mine its)) a8 a9 a10 a11 a12 a13) ∨
    (∃ m2 i2 τ' h', kB (kF n t size rows mine its (some (standT size rows mine its)) (some (nI k)) a9 a10 a11 a12 a13) h = .nx τ' h' ∧ Iv n h' ∧ Hand size m2 [] ∧ Hand size i2 m2 ∧ ∃ a8 a9 a10 a11 a12 a13, τ' = kF n t size rows m2 i2 (some (standT size rows m2 i2)) a8 a9 a10 a11 a12 a13) := by
  have s1 := R.s1
  have fl := free_len (mine := mine) (its := its) R
  obtain ⟨P, hP⟩ : ∃ P, P = some (standT size rows mine its) := ⟨_, rfl⟩
  obtain ⟨L, hL⟩ : ∃ L, L = some (T.lst ((freeL size mine its).map nI)) := ⟨_, rfl⟩
  have S1 : k1 (kF n t size rows mine its P (some (nI k)) a9 a10 a11 a12 a13) h = .nx (kF n t size rows mine its P (some (nI k)) L a10 a11 a12 a13) h := by
    have z := rgf_ok (fun c => !decide (c ∈ mine) && !decide (c ∈ its)) (g := aCons (eVar 2) aNil) (c := TL.bAnd (bTest (eOp TL.bNin (eVar 10) (eVar 5))) (bTest (eOp TL.bNin (eVar 10) (eVar 6)))) (j := 10) (K := size) (τ := kF n t size rows mine its P (some (nI k)) a9 a10 a11 a12 a13) (h := h) (rngk (cons_ok rfl rfl) (by omega)) (by omega) (fun i _ => hAnd (test_ok ((op_ok (b := TL.bNin) (rfl : eVar 10 _ h = .ok (nI i) h) (rfl : eVar 5 _ h = .ok (lineT mine) h)).trans (nin_line i mine h))) fun _ => test_ok ((op_ok (b := TL.bNin) (rfl : eVar 10 _ h = .ok (nI i) h) (rfl : eVar 6 _ h = .ok (lineT its) h)).trans (nin_line i its h))) (fun t => rfl)
    rw [hL]
    exact (set_ok (i := 9) z).trans rfl
  have w9 : eVar 9 (kF n t size rows mine its P (some (nI k)) L a10 a11 a12 a13) h = .ok (.lst ((freeL size mine its).map nI)) h := by rw [hL]; rfl
  have C2 := test_ok ((op_ok (b := TL.bEq) w9 (rfl : eL (aLim aNil) _ h = .ok (.lst []) h)).trans (eq_nilI _ h))
  by_cases em : (freeL size mine its).isEmpty = true
  · rw [em] at C2
    refine .inl ⟨kF n t size rows mine its P (some (nI k)) L a10 a11 a12 a13, h, ?_, V, some (nI k), L, a10, a11, a12, a13, by rw [hP]⟩
    rw [← hP]
    refine (seq_nx S1).trans ?_
    have z : k2 (kF n t size rows mine its P (some (nI k)) L a10 a11 a12 a13) h = .bk (kF n t size rows mine its P (some (nI k)) L a10 a11 a12 a13) h := (if_t C2).trans rfl
    unfold sSeq
    rw [z]
  · rw [Bool.not_eq_true] at em
    rw [em] at C2
    right
    have pos : 0 < ((freeL size mine its).map nI).length := by
      rw [List.length_map]
      cases q : freeL size mine its with
      | nil => rw [q] at em; cases em
      | cons x l => simp
    have S2 : k2 (kF n t size rows mine its P (some (nI k)) L a10 a11 a12 a13) h = .nx (kF n t size rows mine its P (some (nI k)) L a10 a11 a12 a13) h := (if_f C2).trans rfl
    obtain ⟨r, hr, o, e1, io⟩ := pick_ok V pos (by rw [List.length_map]; omega)
    have V1 := V.draw io
    obtain ⟨h1, eh1⟩ : ∃ h1, h1 = h.set n o := ⟨_, rfl⟩
    rw [← eh1] at e1 V1
    obtain ⟨r2, hr2, o2, e2, io2⟩ := pick_ok V1 (ts := [.str "first", .str "second"]) (by simp) (by simp)
    have V2 := V1.draw io2
    obtain ⟨h2, eh2⟩ : ∃ h2, h2 = h1.set n o2 := ⟨_, rfl⟩
    rw [← eh2] at e2 V2
    obtain ⟨c, ec, cf⟩ : ∃ c, ((freeL size mine its).map nI)[r] = nI c ∧ c ∈ freeL size mine its := by
      refine ⟨(freeL size mine its)[r]'(by rw [List.length_map] at hr; exact hr), List.getElem_map .., List.getElem_mem _⟩
    rw [ec] at e1
    obtain ⟨first, ef⟩ : ∃ first, [T.str "first", .str "second"][r2] = .str (handS first) := by
      simp at hr2
      rcases Nat.lt_or_ge r2 1 with q | q
      · have : r2 = 0 := by omega
        subst this
        exact ⟨true, rfl⟩
      · have : r2 = 1 := by omega
        subst this
        exact ⟨false, rfl⟩
    rw [ef] at e2
    have S3 : k3 (kF n t size rows mine its P (some (nI k)) L a10 a11 a12 a13) h = .nx (kF n t size rows mine its P (some (nI k)) L (some (nI c)) (some (.str (handS first))) a12 a13) h2 := by
      obtain ⟨τ, hτ⟩ : ∃ τ, τ = kF n t size rows mine its P (some (nI k)) L a10 a11 a12 a13 := ⟨_, rfl⟩
      have v0 : ∀ h, eVar 0 τ h = .ok (.ref n) h := fun h => by rw [hτ]; rfl
      have v9 : eVar 9 τ h = .ok (.lst ((freeL size mine its).map nI)) h := by rw [hτ, hL]; rfl
      have A := (call_ok (b := m_law_pick) (cons_ok (v0 h) (cons_ok v9 (rfl : aNil τ h = .ok [] h)))).trans e1
      have ab : eL (aLim (aCons (eK (.str "first")) (aCons (eK (.str "second")) aNil))) τ h1 = .ok (.lst [.str "first", .str "second"]) h1 := eL_ok (lim_ok rfl (by simp))
      have B := (call_ok (b := m_law_pick) (cons_ok (v0 h1) (cons_ok ab (rfl : aNil τ h1 = .ok [] h1)))).trans e2
      rw [← hτ]
      unfold k3 sPar
      rw [cons_ok A (cons_ok B (rfl : aNil τ h2 = .ok [] h2)), hτ]
      rfl
    obtain ⟨m2, hm2⟩ : ∃ m2, m2 = (if first = true then moreL mine c else mine) := ⟨_, rfl⟩
    obtain ⟨i2, hi2⟩ : ∃ i2, i2 = (if first = true then its else moreL its c) := ⟨_, rfl⟩
    have TK := taken_ok (rows := rows) first s1 M I cf (V2.fl.low _)
    rw [← hm2, ← hi2] at TK
    have M2 : Hand size m2 [] := by
      rw [hm2]
      cases first with
      | true => exact more_hand1 M cf
      | false => exact M
    have I2 : Hand size i2 m2 := by
      rw [hm2, hi2]
      cases first with
      | true => exact more_out I cf
      | false => exact more_hand I cf
    have S4 : k4 (kF n t size rows mine its P (some (nI k)) L (some (nI c)) (some (.str (handS first))) a12 a13) h2 = .nx (kF n t size rows mine its P (some (nI k)) L (some (nI c)) (some (.str (handS first))) (some (standT size rows m2 i2)) a13) h2 := by
      obtain ⟨τ, hτ⟩ : ∃ τ, τ = kF n t size rows mine its P (some (nI k)) L (some (nI c)) (some (.str (handS first))) a12 a13 := ⟨_, rfl⟩
      have v7 : eVar 7 τ h2 = .ok (standT size rows mine its) h2 := by rw [hτ, hP]; rfl
      have v8 : eVar 8 τ h2 = .ok (nI k) h2 := by rw [hτ]; rfl
      have v10 : eVar 10 τ h2 = .ok (nI c) h2 := by rw [hτ]; rfl
      have v11 : eVar 11 τ h2 = .ok (.str (handS first)) h2 := by rw [hτ]; rfl
      have nil : aNil τ h2 = .ok [] h2 := rfl
      have gi : getI h2 (standT size rows mine its) = some (1, [boardT size rows, lineT mine, lineT its]) := rfl
      have C := test_ok ((op_ok (b := TL.bGt) v8 (rfl : eK (.int 0) τ h2 = .ok (.int 0) h2)).trans (hGt _ _ h2))
      have A : eMeth 1 m_Stand_taken (eVar 7) (aCons (eVar 11) (aCons (eVar 10) aNil)) τ h2 = .ok (standT size rows m2 i2) h2 := by
        unfold eMeth
        simp only [v7, gi, if_true, cons_ok v11 (cons_ok v10 nil)]
        exact TK
      have B : eMeth 1 m_Stand_taken (eVar 7) (aPerm [1, 0] (aCons (eVar 10) (aCons (eVar 11) aNil))) τ h2 = .ok (standT size rows m2 i2) h2 := by
        have p : aPerm [1, 0] (aCons (eVar 10) (aCons (eVar 11) aNil)) τ h2 = .ok [.str (handS first), nI c] h2 := by
          unfold aPerm
          rw [cons_ok v10 (cons_ok v11 nil)]
          rfl
        unfold eMeth
        simp only [v7, gi, if_true, p]
        exact TK
      have E : eIf (bTest (eOp TL.bGt (eVar 8) (eK (.int 0)))) (eMeth 1 m_Stand_taken (eVar 7) (aCons (eVar 11) (aCons (eVar 10) aNil))) (eMeth 1 m_Stand_taken (eVar 7) (aPerm [1, 0] (aCons (eVar 10) (aCons (eVar 11) aNil)))) τ h2 = .ok (standT size rows m2 i2) h2 := by
        cases q : decide ((k : Int) > 0) with
        | true => rw [q] at C; exact (hIfT C).trans A
        | false => rw [q] at C; exact (hIfF C).trans B
      rw [← hτ]
      refine (set_ok (i := 12) E).trans ?_
      rw [hτ]
      rfl
    obtain ⟨h3, C5, V3⟩ := isC_ok (t := t) R M I V2 (some (nI k)) L (some (nI c)) (some (.str (handS first))) (some (standT size rows m2 i2)) a13
    rw [← hP] at C5
    obtain ⟨c1, c2, c3⟩ := free_mem.mp cf
    have nq : (decide (m2 = mine) && decide (i2 = its)) = false := by
      rw [Bool.and_eq_false_iff, decide_eq_false_iff_not, decide_eq_false_iff_not]
      cases first with
      | true => exact .inl fun z => c2 (by rw [← z, hm2]; exact more_mem.mpr (.inr rfl))
      | false => exact .inr fun z => c3 (by rw [← z, hi2]; exact more_mem.mpr (.inr rfl))
    have S5 : k5 (kF n t size rows mine its P (some (nI k)) L (some (nI c)) (some (.str (handS first))) (some (standT size rows m2 i2)) a13) h2 = .nx (kF n t size rows mine its P (some (nI k)) L (some (nI c)) (some (.str (handS first))) (some (standT size rows m2 i2)) a13) h3 := by
      have w7 : eVar 7 (kF n t size rows mine its P (some (nI k)) L (some (nI c)) (some (.str (handS first))) (some (standT size rows m2 i2)) a13) h3 = .ok (standT size rows mine its) h3 := by rw [hP]; rfl
      have D := test_ok ((op_ok (b := bEqO 1 false m_Stand___eq__) (rfl : eVar 12 (kF n t size rows mine its P (some (nI k)) L (some (nI c)) (some (.str (handS first))) (some (standT size rows m2 i2)) a13) h3 = .ok (standT size rows m2 i2) h3) w7).trans (eqO_stand false mine its h3))
      rw [nq] at D
      exact (if_f ((or_f (not_ok C5)).trans D)).trans rfl
    have S6 : k6 (kF n t size rows mine its P (some (nI k)) L (some (nI c)) (some (.str (handS first))) (some (standT size rows m2 i2)) a13) h3 = .nx (kF n t size rows m2 i2 P (some (nI k)) L (some (nI c)) (some (.str (handS first))) (some (standT size rows m2 i2)) a13) h3 := by
      obtain ⟨τ, hτ⟩ : ∃ τ, τ = kF n t size rows mine its P (some (nI k)) L (some (nI c)) (some (.str (handS first))) (some (standT size rows m2 i2)) a13 := ⟨_, rfl⟩
      have v5 : eVar 5 τ h3 = .ok (lineT mine) h3 := by rw [hτ]; rfl
      have v6 : eVar 6 τ h3 = .ok (lineT its) h3 := by rw [hτ]; rfl
      have v10 : eVar 10 τ h3 = .ok (nI c) h3 := by rw [hτ]; rfl
      have v11 : eVar 11 τ h3 = .ok (.str (handS first)) h3 := by rw [hτ]; rfl
      have C := test_ok ((op_ok (b := TL.bEq) v11 (rfl : eK (.str "first") τ h3 = .ok (.str "first") h3)).trans (TL.eq_strs _ _ h3))
      rw [← hτ]
      unfold k6
      cases first with
      | true =>
        rw [if_t (C.trans (by rfl)), set_ok (addHand v5 v10 (by have := M.len; omega)), hτ, hm2, hi2]
        rfl
      | false =>
        rw [if_f (C.trans (by rfl)), set_ok (addHand v6 v10 (by have := I.len; omega)), hτ, hm2, hi2]
        rfl
    have S7 : k7 (kF n t size rows m2 i2 P (some (nI k)) L (some (nI c)) (some (.str (handS first))) (some (standT size rows m2 i2)) a13) h3 = .nx (kF n t size rows m2 i2 (some (standT size rows m2 i2)) (some (nI k)) L (some (nI c)) (some (.str (handS first))) (some (standT size rows m2 i2)) a13) h3 := (set_ok (i := 7) (rfl : eVar 12 _ h3 = .ok (standT size rows m2 i2) h3)).trans rfl
    obtain ⟨h4, C8, V4⟩ := isC_ok (t := t) R M2 I2 V3 (some (nI k)) L (some (nI c)) (some (.str (handS first))) (some (standT size rows m2 i2)) a13
    refine ⟨m2, i2, kF n t size rows m2 i2 (some (standT size rows m2 i2)) (some (nI k)) L (some (nI c)) (some (.str (handS first))) (some (standT size rows m2 i2)) a13, h4, ?_, V4, M2, I2, _, _, _, _, _, _, rfl⟩
    rw [← hP]
    exact (seq_nx S1).trans ((seq_nx S2).trans ((seq_nx S3).trans ((seq_nx S4).trans ((seq_nx S5).trans ((seq_nx S6).trans ((seq_nx S7).trans ((if_f (not_ok C8)).trans rfl)))))))
end
end BD

set_option Elab.async false
set_option linter.all false
set_option maxRecDepth 100000
set_option maxHeartbeats 4000000
namespace BD
open PySem L2 TL K13 K06 K02
/-! ### pairs of lines, what they share -/
def cntP (p : List Nat × List Nat) : Nat := (p.1.filter fun c => decide (c ∈ p.2)).length
def prB : List (List Nat) → List (List Nat) → List (List Nat × List Nat)
  | _, [] => []
  | pre, r :: rs => pre.map (fun o => (r, o)) ++ prB (pre ++ [r]) rs
theorem prB_snoc (r : List Nat) : ∀ (a pre : List (List Nat)), prB pre (a ++ [r]) = prB pre a ++ (pre ++ a).map fun o => (r, o)
  | [], pre => by simp [prB]
  | x :: a, pre => by
    show pre.map (fun o => (x, o)) ++ prB (pre ++ [x]) (a ++ [r]) = _
    rw [prB_snoc r a (pre ++ [x])]
    simp [prB, List.append_assoc]
def pairsB (rows : List (List Nat)) : List (List Nat × List Nat) := prB [] rows
theorem pairsB_take {rows : List (List Nat)} {i : Nat} (hi : i < rows.length) : pairsB (rows.take (i + 1)) = pairsB (rows.take i) ++ (rows.take i).map fun o => (rows[i], o) := by
  unfold pairsB
  rw [List.take_succ_eq_append_getElem hi, prB_snoc, List.nil_append]
theorem pairsB_len {rows : List (List Nat)} : ∀ i, i ≤ rows.length → (pairsB (rows.take i)).length ≤ i * rows.length
  | 0, _ => by simp [pairsB, prB]
  | i + 1, h => by
    have ih := pairsB_len (rows := rows) i (by omega)
    rw [pairsB_take (by omega), List.length_append, List.length_map, List.length_take, Nat.add_mul, Nat.one_mul]
    omega
def thinB (rows : List (List Nat)) : Bool := !(pairsB rows).any fun p => decide (1 < cntP p)
theorem shared_ok (a b : List Nat) (ha : a.length ≤ 1000) (h : VH) : m_shared [lineT a, lineT b] h = .ok (.lst ((a.filter fun c => decide (c ∈ b)).map nI)) h := by
  refine defM_rt rfl (ret_ok ?_)
  exact filt_ok nI a (fun c => decide (c ∈ b)) (f := eVar 0) (c := bTest (eOp TL.bIn (eVar 2) (eVar 1))) (j := 2) (τ := startT 3 [lineT a, lineT b]) (h := h) rfl (by omega) (fun c _ => test_ok ((op_ok (b := TL.bIn) (rfl : eVar 2 _ h = .ok (nI c) h) (rfl : eVar 1 _ h = .ok (lineT b) h)).trans (in_line c b h))) (fun t => rfl)
theorem lcL2_pure {rd : VH → Option (List T)} {g : MG} {mi1 : MI} {us : List Nat} {g1 : MG} {e : ME} {τ : TS_} {h : VH} {ts : List T} (hrd : rd h = some ts) (I : Nat → List T → Prop)
    (hb : ∀ i (hi : i < ts.length) acc, I i acc → ∃ τ1 rd1 us1 acc1, g ts[i] τ h = .ok τ1 h ∧ mi1 τ1 h = .ok rd1 h ∧ rd1 h = some us1 ∧ acc.length + us1.length ≤ 16777216 ∧ lcL rd1 g1 bYes e (wipeT τ1 us) us1.length us1.length 0 acc h = .ok acc1 h ∧ I (i + 1) acc1) :
    ∀ (k i : Nat) (acc : List T), i + k = ts.length → I i acc → ∃ acc', lcL2 rd g bYes mi1 us g1 bYes e τ ts.length k i acc h = .ok acc' h ∧ I ts.length acc' := by
  intro k
  induction k with
  | zero =>
    intro i acc hi Ih
    obtain rfl : i = ts.length := by omega
    exact ⟨acc, by simp [lcL2, hrd], Ih⟩
  | succ k ih =>
    intro i acc hi Ih
    have hlt : i < ts.length := by omega
    have e1 : ts[i]? = some ts[i] := List.getElem?_eq_getElem hlt
    obtain ⟨τ1, rd1, us1, acc1, a1, a2, a3, a4, a5, I2⟩ := hb i hlt acc Ih
    obtain ⟨acc', z, I3⟩ := ih (i + 1) acc1 (by omega) I2
    refine ⟨acc', ?_, I3⟩
    have b : bYes τ1 h = .ok true h := rfl
    simp only [lcL2, hrd, e1, a1, b, a2, a3, a4, a5, if_true]
    exact z
section
variable {size : Nat} {rows : List (List Nat)}
def thE : ME := (eOp TL.bGt (eCall fLen (aCons (eCall m_shared (aCons (eVar 2) (aCons (eVar 3) aNil))) aNil)) (eK (.int 1)))
def thI : MI := (iSeqC (eSl (eFld 0 2 (eVar 0)) oNo (oSome (eVar 1))))
theorem thin_eq : s_Board_is_thin = sRet (eNot (eCall fAny (aCons (eL (mLc2 (iEnumM (aCons (eFld 0 2 (eVar 0)) aNil)) [1, 2, 3] (mgTup 2 (mgsCons (mgName 1) (mgsCons (mgName 2) mgsNil))) bYes thI [3] (mgName 3) bYes thE)) aNil))) := rfl
theorem thin_ok (R : Rows size rows) (h : VH) : m_Board_is_thin [boardT size rows] h = .ok (.bl (thinB rows)) h := by
  have few := R.len
  have ll : ∀ l ∈ rows, l.length ≤ 1000 := fun l hl => by
    have := (R.line l hl).len
    have := R.s1
    omega
  obtain ⟨τ, hτ⟩ : ∃ τ, τ = [some (boardT size rows), none, none, none] := ⟨_, rfl⟩
  have hm : iEnumM (aCons (eFld 0 2 (eVar 0)) aNil) τ h = .ok (fun h => (listOf h (rowsLT rows)).map enumT) h := by
    rw [hτ]
    rfl
  have hrd : (fun h => (listOf h (rowsLT rows)).map enumT) h = some (enumT (rows.map lineT)) := rfl
  have len : (enumT (rows.map lineT)).length = rows.length := by simp [enumT]
  obtain ⟨acc, z, q⟩ := lcL2_pure (rd := fun h => (listOf h (rowsLT rows)).map enumT) (g := mgTup 2 (mgsCons (mgName 1) (mgsCons (mgName 2) mgsNil))) (mi1 := thI) (us := [3]) (g1 := mgName 3) (e := thE) (τ := wipeT τ [1, 2, 3]) (h := h) hrd (fun i acc => i ≤ rows.length ∧ acc = (pairsB (rows.take i)).map fun p => T.bl (decide (1 < cntP p))) (fun i hi acc J => by
    obtain ⟨hle, rfl⟩ := J
    rw [len] at hi
    have ei : (enumT (rows.map lineT))[i] = .tup [.int (i : Nat), lineT rows[i]] := by simp [enumT]
    obtain ⟨τ1, hτ1⟩ : ∃ τ1, τ1 = [some (boardT size rows), some (nI i), some (lineT rows[i]), none] := ⟨_, rfl⟩
    have cut := cut_take (ts := rows.map lineT) (k := i) (by rw [List.length_map]; omega)
    have m1 : thI τ1 h = .ok (fun h => seqS h (.lst ((rows.take i).map lineT))) h := by
      unfold thI iSeqC eSl
      rw [hτ1]
      have f : eFld 0 2 (eVar 0) [some (boardT size rows), some (nI i), some (lineT rows[i]), none] h = .ok (.lst (rows.map lineT)) h := rfl
      have v : eVar 1 [some (boardT size rows), some (nI i), some (lineT rows[i]), none] h = .ok (nI i) h := rfl
      rw [f]
      simp only [oNo, oSome, v, TL.bSl, TL.listOf, cut, List.map_take]
      rfl
    have inner := lcL_pure (rd := fun h => seqS h (.lst ((rows.take i).map lineT))) (g := mgName 3) (c := bYes) (e := thE) (τ := wipeT τ1 [3]) (h := h) (ts := (rows.take i).map lineT) rfl (fun _ => true) (fun t => match thE ((wipeT τ1 [3]).set 3 (some t)) h with | .ok u _ => u | _ => .non) (fun t ht => by
      obtain ⟨o, ho, rfl⟩ := List.mem_map.mp ht
      refine ⟨_, rfl, rfl, fun _ => ?_⟩
      have e : thE ((wipeT τ1 [3]).set 3 (some (lineT o))) h = .ok (.bl (decide (1 < cntP (rows[i], o)))) h := by
        rw [hτ1]
        have S := (call_ok (b := m_shared) (g := aCons (eVar 2) (aCons (eVar 3) aNil)) (τ := [some (boardT size rows), some (nI i), some (lineT rows[i]), some (lineT o)]) (h := h) (ts := [lineT rows[i], lineT o]) rfl).trans (shared_ok rows[i] o (ll _ (List.getElem_mem _)) h)
        have L := hLenL S
        rw [List.length_map] at L
        refine (op_ok (b := TL.bGt) L (rfl : eK (.int 1) _ h = .ok (.int 1) h)).trans ((hGt _ _ h).trans ?_)
        exact congrArg (fun b => Res.ok (T.bl b) h) (decide_eq_decide.mpr (by show (1 : Int) < ((rows[i].filter fun c => decide (c ∈ o)).length : Nat) ↔ 1 < (rows[i].filter fun c => decide (c ∈ o)).length; omega))
      show thE ((wipeT τ1 [3]).set 3 (some (lineT o))) h = _
      rw [e]) ((rows.take i).map lineT).length 0 ((pairsB (rows.take i)).map fun p => T.bl (decide (1 < cntP p))) (by omega)
    have pl := pairsB_len (rows := rows) i hle
    have bl : i * rows.length ≤ 30 * 30 := Nat.mul_le_mul (by omega) few
    refine ⟨τ1, _, _, _, by rw [ei, hτ1, hτ]; rfl, m1, rfl, by rw [List.length_map, List.length_map, List.length_take]; omega, inner, by omega, ?_⟩
    rw [pairsB_take hi, List.map_append, List.drop_zero, List.filter_eq_self.mpr (fun _ _ => rfl), List.map_map, List.map_map]
    refine congrArg (_ ++ ·) (List.map_congr_left fun o ho => ?_)
    show (match thE ((wipeT τ1 [3]).set 3 (some (lineT o))) h with | .ok u _ => u | _ => T.non) = _
    have e : thE ((wipeT τ1 [3]).set 3 (some (lineT o))) h = .ok (.bl (decide (1 < cntP (rows[i], o)))) h := by
      rw [hτ1]
      have S := (call_ok (b := m_shared) (g := aCons (eVar 2) (aCons (eVar 3) aNil)) (τ := [some (boardT size rows), some (nI i), some (lineT rows[i]), some (lineT o)]) (h := h) (ts := [lineT rows[i], lineT o]) rfl).trans (shared_ok rows[i] o (ll _ (List.getElem_mem _)) h)
      have L := hLenL S
      rw [List.length_map] at L
      refine (op_ok (b := TL.bGt) L (rfl : eK (.int 1) _ h = .ok (.int 1) h)).trans ((hGt _ _ h).trans ?_)
      exact congrArg (fun b => Res.ok (T.bl b) h) (decide_eq_decide.mpr (by show (1 : Int) < ((rows[i].filter fun c => decide (c ∈ o)).length : Nat) ↔ 1 < (rows[i].filter fun c => decide (c ∈ o)).length; omega))
    rw [e]
    rfl) (enumT (rows.map lineT)).length 0 [] (by omega) ⟨Nat.zero_le _, rfl⟩
  rw [len] at q
  rw [List.take_length] at q
  have A : eL (mLc2 (iEnumM (aCons (eFld 0 2 (eVar 0)) aNil)) [1, 2, 3] (mgTup 2 (mgsCons (mgName 1) (mgsCons (mgName 2) mgsNil))) bYes thI [3] (mgName 3) bYes thE) τ h = .ok (.lst ((pairsB rows).map fun p => T.bl (decide (1 < cntP p)))) h := by
    refine eL_ok ?_
    unfold mLc2
    rw [hm]
    simp only [hrd]
    rw [z, q.2]
  have B := (call_ok (b := fAny) (cons_ok A (rfl : aNil τ h = .ok [] h))).trans (hAny (pairsB rows) (fun p => decide (1 < cntP p)) h)
  show defM 4 1 s_Board_is_thin _ _ = _
  rw [thin_eq]
  refine defM_rt rfl (ret_ok ?_)
  show eNot _ [some (boardT size rows), none, none, none] h = _
  rw [← hτ]
  unfold eNot
  rw [B]
  rfl
end
end BD

set_option Elab.async false
set_option linter.all false
set_option maxRecDepth 100000
set_option maxHeartbeats 4000000
namespace BD
open PySem L2 TL K13 K06 K02
def boardR (n : Nat) : Str := ((("Board of " : String) : Str) ++ numS n) ++ ((" cells" : String) : Str)
theorem boardR_len {n : Nat} (hn : n ≤ 30) : (boardR n).length ≤ 24 ∧ ∀ c ∈ tl (boardR n), c < 128 := by
  have nl := num_len hn
  have a1 : (("Board of " : String) : Str).length = 9 := by decide
  have a2 : ((" cells" : String) : Str).length = 6 := by decide
  refine ⟨by unfold boardR; rw [TL.len_app, TL.len_app]; omega, fun c hc => ?_⟩
  unfold boardR at hc
  rw [tl_append, tl_append, List.mem_append, List.mem_append] at hc
  have b1 : (tl ("Board of " : String)).all (fun c => decide (c < 128)) = true := by decide +kernel
  have b2 : (tl (" cells" : String)).all (fun c => decide (c < 128)) = true := by decide +kernel
  rcases hc with (h | h) | h
  · exact of_decide_eq_true (List.all_eq_true.mp b1 c h)
  · have := num_dig hn h
    omega
  · exact of_decide_eq_true (List.all_eq_true.mp b2 c h)
section
variable {size : Nat} {rows : List (List Nat)}
theorem bsize_ok (h : VH) : m_Board_size [boardT size rows] h = .ok (nI size) h := rfl
theorem blines_ok (h : VH) : m_Board_lines [boardT size rows] h = .ok (.tup (rows.map lineT)) h := rfl
theorem brepr_ok (s1 : size ≤ 30) (h : VH) : fOwn1 0 m_Board___repr__ [boardT size rows] h = .ok (.str (boardR size)) h := by
  have e1 : getI h (boardT size rows) = some (0, [.str (boardS size rows), .int (size : Nat), rowsLT rows]) := rfl
  have e : m_Board___repr__ [boardT size rows] h = .ok (.str (boardR size)) h := by
    refine defM_rt rfl (ret_ok ?_)
    obtain ⟨τ, hτ⟩ : ∃ τ, τ = startT 1 [boardT size rows] := ⟨_, rfl⟩
    have v0 : eVar 0 τ h = .ok (boardT size rows) h := by rw [hτ]; rfl
    have ns := fStr_num (n := size) s1 h
    have nl := num_len (n := size) s1
    have F : eFmt (eFld 0 1 (eVar 0)) τ h = .ok (.str (numS size)) h := by
      unfold eFmt
      rw [bfld1 v0]
      simp only [fStr] at ns
      split at ns
      · rename_i c
        simp only
        exact if_pos c
      · cases ns
    rw [← hτ]
    show runJ [eK (.str "Board of "), _, eK (.str " cells")] Str.empty τ h = _
    have a1 : (("Board of " : String) : Str).length = 9 := by decide
    have a2 : ((" cells" : String) : Str).length = 6 := by decide
    have a0 : Str.empty.length = 0 := by decide
    unfold runJ
    rw [show eK (.str "Board of ") τ h = .ok (.str "Board of ") h from rfl]
    simp only
    rw [if_pos (by omega), empty_app]
    unfold runJ
    rw [F]
    simp only
    rw [if_pos (by omega)]
    unfold runJ
    rw [show eK (.str " cells") τ h = .ok (.str " cells") h from rfl]
    simp only
    rw [if_pos (by rw [TL.len_app]; omega)]
    rfl
  unfold fOwn1
  simp only [e1, e, if_true]
def shBD (size : Nat) (rows : List (List Nat)) : PyData := .list [.str (boardS size rows), .int (size : Nat), .tuple (rows.map lnD), .bool (thinB rows), .str (boardS size rows), .str (boardR size), .bool true]
abbrev shBT (size : Nat) (rows : List (List Nat)) : List T := [.str (boardS size rows), nI size, .tup (rows.map lineT), .bl (thinB rows), .str (boardS size rows), .str (boardR size), .bl true]
theorem showB_ok (R : Rows size rows) (h : VH) : fRepr [.lst (shBT size rows)] h = .ok (.str (shBD size rows).shown) h := by
  have s1 := R.s1
  have e : T.dat h 10 (.lst (shBT size rows)) = some (shBD size rows) := by
    have d3 : T.dat h 9 (.tup (rows.map lineT)) = some (.tuple (rows.map lnD)) := by
      rw [dat_tup, lines_dat _ h 7]
      rfl
    rw [dat_lst]
    simp only [List.mapM_cons, List.mapM_nil, dat_str, dat_bl, dat_int, d3, Option.pure_def, Option.bind_eq_bind, Option.bind_some, Option.map_some]
    rfl
  have rl := R.len
  obtain ⟨a5, b5, c5⟩ := lines_show (n := 30) (rs := rows) fun l hl => by
    have L := R.line l hl
    have := L.len
    exact ⟨by omega, fun c hc => by have := L.lt c hc; omega⟩
  have t1 := text_show (x := boardS size rows) fun c hc => board_mem R hc
  have bl := board_len R
  obtain ⟨sl, sm⟩ := boardR_len s1
  have t2 := text_show sm
  have q : wides (rows.map lnD) ≤ 425 * 30 := Nat.le_trans c5 (Nat.mul_le_mul_left _ rl)
  obtain ⟨x1, x2, x3⟩ := ints_show (l := [size]) fun c hc => by rw [List.mem_singleton.mp hc]; omega
  refine repr_ok e ?_ ?_ ?_
  · unfold shBD
    simp only [PyData.showable, PyData.showableAll, a5, Bool.true_and, Bool.and_true]
    simpa [PyData.showableAll, PyData.showable] using x1
  · unfold shBD
    simp only [PyData.hasDict, PyData.hasDictAll, b5, Bool.false_or, Bool.or_false]
  · unfold shBD
    simp only [wide, wides, List.map_cons, List.map_nil, List.length_singleton] at *
    omega
/-! ### boards that are equal, values that are none -/
theorem beq2_ok (s2 : Nat) (r2 : List (List Nat)) (h : VH) : m_Board___eq__ [boardT size rows, boardT s2 r2] h = .ok (.bl (boardS size rows == boardS s2 r2)) h := by
  refine defM_rt rfl (ret_ok ?_)
  refine (and_t (h1 := h) rfl).trans ?_
  refine (op_ok (b := TL.bEq) (rfl : eFld 0 0 (eVar 0) (startT 2 [boardT size rows, boardT s2 r2]) h = .ok (.str (boardS size rows)) h) (prop0 (rfl : eVar 1 (startT 2 [boardT size rows, boardT s2 r2]) h = .ok (boardT s2 r2) h) (text_ok h))).trans ?_
  rw [TL.eq_strs]
theorem eqO_boards (neg : Bool) (s2 : Nat) (r2 : List (List Nat)) (h : VH) : bEqO 0 neg m_Board___eq__ (boardT size rows) (boardT s2 r2) h = .ok (.bl (neg != (boardS size rows == boardS s2 r2))) h := by
  have e1 : getI h (boardT size rows) = some (0, [.str (boardS size rows), .int (size : Nat), rowsLT rows]) := rfl
  have e2 : tyOf h (boardT s2 r2) = some (.o 0) := rfl
  unfold bEqO
  simp only [e1, e2, beq2_ok, if_true]
def NoBoard (t : T) (h : VH) : Prop := ∃ y, tyOf h t = some y ∧ isiB y (.o 0) = false
theorem eqO_oddB (neg : Bool) {t : T} {h : VH} (n : NoBoard t h) : bEqO 0 neg m_Board___eq__ (boardT size rows) t h = .ok (.bl neg) h := by
  obtain ⟨y, ty, ny⟩ := n
  have e1 : getI h (boardT size rows) = some (0, [.str (boardS size rows), .int (size : Nat), rowsLT rows]) := rfl
  have e : m_Board___eq__ [boardT size rows, t] h = .ok (.bl false) h := by
    refine defM_rt rfl (ret_ok (and_f ?_))
    have v1 : eVar 1 (startT 2 [boardT size rows, t]) h = .ok t h := rfl
    unfold eIsi
    rw [v1]
    simp only [ty, ny]
  unfold bEqO
  simp only [e1, ty, e, if_true, Bool.bne_false]
end
theorem eqv_bls : ∀ l : List Bool, PyData.eqvAll (l.map PyData.bool) (l.map PyData.bool) = true
  | [] => rfl
  | b :: l => by
    simp only [List.map_cons]
    unfold PyData.eqvAll
    rw [eqv_bls l]
    cases b <;> simp [PyData.eqv]
theorem ne_bls (l : List Bool) (h : VH) : TL.bNe (.lst (l.map T.bl)) (.lst (l.map T.bl)) h = .ok (.bl false) h := by
  have e1 : T.dat h 10 (.lst (l.map T.bl)) = some (.list (l.map PyData.bool)) := by
    rw [dat_lst, List.mapM_map]
    have := mapM_some (f := fun b : Bool => T.dat h 9 (T.bl b)) (g := PyData.bool) (l := l) fun z _ => dat_bl
    have e2 : List.mapM ((T.dat h 9) ∘ T.bl) l = some (l.map PyData.bool) := this
    rw [e2]
    rfl
  unfold TL.bNe bEqG
  rw [e1]
  simp [PyData.eqv, eqv_bls]
end BD

set_option Elab.async false
set_option linter.all false
set_option maxRecDepth 100000
set_option maxHeartbeats 4000000
namespace BD
open PySem L2 TL K13 K06 K02
def z1 : MS := (sAsg (eVar 10) (mgTup 2 (mgsCons (mgName 5) (mgsCons (mgName 6) mgsNil))))
def z2 : MS := (sSet 11 (eK (.int 0)))
def z3E : ME := (eCall fLen (aCons (eL (mLc (iSeqC (eVar 12)) [14] (mgName 14) (bTest (eOp TL.bIn (eVar 14) (eVar 13))) (eVar 14))) aNil))
def z3I : MI := (iSeqC (eSl (eVar 6) oNo (oSome (eVar 3))))
def z3B : MS := (sSet 11 (eCall fMax (aCons (eOp TL.bAdd (eL (aLim (aCons (eVar 11) aNil))) (eL (mLc z3I [13] (mgName 13) bYes z3E))) aNil)))
def z3 : MS := (sFor (iEnumM (aCons (eVar 6) aNil)) (mgTup 2 (mgsCons (mgName 3) (mgsCons (mgName 12) mgsNil))) z3B)
def z4 : MS := (sSet 15 (eL (aLim (aCons (eProp 0 m_Board_text (eVar 9)) (aCons (eProp 0 m_Board_size (eVar 9)) (aCons (eProp 0 m_Board_lines (eVar 9)) (aCons (eProp 0 m_Board_is_thin (eVar 9)) (aCons (eCall (fOwn1 0 m_Board___str__) (aCons (eVar 9) aNil)) (aCons (eCall (fOwn1 0 m_Board___repr__) (aCons (eVar 9) aNil)) (aCons (eCall (fBoolO 0) (aCons (eVar 9) aNil)) aNil))))))))))
def z5 : MS := (sSet 16 (eL (aLim (aCons (eVar 8) (aCons (eVar 5) (aCons (eCall fTuple (aCons (eVar 6) aNil)) (aCons (eOp TL.bLt (eVar 11) (eK (.int 2))) (aCons (eVar 8) (aCons (eOp TL.bAdd (eOp TL.bAdd (eK (.str "Board of ")) (eCall fStr (aCons (eVar 5) aNil))) (eK (.str " cells"))) (aCons (eK (.bl true)) aNil))))))))))
def zNo : MS := (sRet (eK (.bl false)))
def z6 : MS := (sIf (bTest (eOp TL.bNe (eCall fRepr (aCons (eVar 15) aNil)) (eCall fRepr (aCons (eVar 16) aNil)))) zNo sNil)
def zG (neg : Bool) : ME := (eL (mLc (iSeqC (eVar 7)) [17] (mgName 17) bYes (eOp (bEqO 0 neg m_Board___eq__) (eVar 9) (eVar 17))))
def zL (b : T → T → VH → Res T) : ME := (eL (mLc (iSeqC (eVar 4)) [17] (mgName 17) bYes (eOp b (eVar 8) (eVar 17))))
def z7 : MS := (sIf (bTest (eOp TL.bNe (zG false) (zL TL.bEq))) zNo sNil)
def z8 : MS := (sIf (bTest (eOp TL.bNe (zG true) (zL TL.bNe))) zNo sNil)
def z9I : MI := (iSeqC (eL (aLim (aCons (eK .non) (aCons (eK (.int 0)) (aCons (eVar 8) (aCons (eTup (aCons (eVar 8) aNil)) (aCons (eL (aLim (aCons (eVar 9) aNil))) (aCons eDNew (aCons (eK (.bl true)) aNil))))))))))
def z9B : MS := (sIf (TL.bOr (bTest (eOp (bEqO 0 false m_Board___eq__) (eVar 9) (eVar 18))) (TL.bNot (bTest (eOp (bEqO 0 true m_Board___eq__) (eVar 9) (eVar 18))))) zNo sNil)
def z9 : MS := (sFor z9I (mgName 18) z9B)
def zB : MS := sSeq z1 (sSeq z2 (sSeq z3 (sSeq z4 (sSeq z5 (sSeq z6 (sSeq z7 (sSeq z8 z9)))))))
abbrev Bd := Nat × List (List Nat)
def gdT (b : Bd) : T := boardT b.1 b.2
def gdS (b : Bd) : Str := boardS b.1 b.2
def gdP (b : Bd) : T := .tup [nI b.1, rowsLT b.2]
section
variable {n q : Nat} {bs : List Bd} {size : Nat} {rows : List (List Nat)}
abbrev zF (n q : Nat) (bs : List Bd) (size : Nat) (rows : List (List Nat)) (a2 a3 a5 a6 a11 a12 a13 a14 a15 a16 a17 a18 : Option T) : TS_ :=
  [some (.ref n), some (.ref q), a2, a3, some (.lst (bs.map fun b => T.str (gdS b))), a5, a6, some (.lst (bs.map gdT)), some (.str (boardS size rows)), some (boardT size rows), some (.tup [nI size, rowsLT rows]), a11, a12, a13, a14, a15, a16, a17, a18]
theorem max_ok (s : Nat) (l : List Nat) (h : VH) : fMax [.lst (([s] : List Nat).map nI ++ l.map nI)] h = .ok (nI (l.foldl max s)) h := by
  have e : ∀ l : List Nat, intsOf (l.map nI) = some (l.map fun c : Nat => (c : Int)) := by
    intro l
    induction l with
    | nil => rfl
    | cons x l ih =>
      simp only [List.map_cons, intsOf]
      rw [ih]
      rfl
  have f : ∀ (l : List Nat) (s : Nat), (l.map fun c : Nat => (c : Int)).foldl max (s : Int) = ((l.foldl max s : Nat) : Int) := by
    intro l
    induction l with
    | nil => intro s; rfl
    | cons x l ih =>
      intro s
      simp only [List.map_cons, List.foldl_cons]
      rw [← ih]
      congr 1
      omega
  have e2 := e (s :: l)
  have g : fMax [.lst (([s] : List Nat).map nI ++ l.map nI)] h = (match intsOf ((s :: l).map nI) with
    | some ns => (match maxI ns with | some m => Res.ok (.int m) h | none => .bad)
    | none => .bad) := rfl
  rw [g, e2]
  simp only [List.map_cons, maxI]
  rw [f]
theorem foldl_max_lt (k : Nat) : ∀ (l : List Nat) (s : Nat), decide (l.foldl max s < k) = (decide (s < k) && l.all fun x => decide (x < k))
  | [], s => by rw [List.foldl_nil, List.all_nil, Bool.and_true]
  | x :: l, s => by
    rw [List.foldl_cons, foldl_max_lt k l, List.all_cons, ← Bool.and_assoc]
    congr 1
    rw [Bool.eq_iff_iff, Bool.and_eq_true, decide_eq_true_iff, decide_eq_true_iff, decide_eq_true_iff]
    omega
theorem z3_ok (R : Rows size rows) (h : VH) (a2 a3 a5 a12 a13 a14 a15 a16 a17 a18 : Option T) :
    ∃ (s : Nat) (b3 b12 : Option T), z3 (zF n q bs size rows a2 a3 a5 (some (rowsLT rows)) (some (nI 0)) a12 a13 a14 a15 a16 a17 a18) h = .nx (zF n q bs size rows a2 b3 a5 (some (rowsLT rows)) (some (nI s)) b12 a13 a14 a15 a16 a17 a18) h ∧ decide (s < 2) = thinB rows := by
  have few := R.len
  have ll : ∀ l ∈ rows, l.length ≤ 1000 := fun l hl => by
    have := (R.line l hl).len
    have := R.s1
    omega
  have len : (enumT (rows.map lineT)).length = rows.length := by simp [enumT]
  obtain ⟨τ', h', z, rfl, s, b3, b12, e, d⟩ := sFor_inv (mi := iEnumM (aCons (eVar 6) aNil)) (g := mgTup 2 (mgsCons (mgName 3) (mgsCons (mgName 12) mgsNil))) (body := z3B) (τ := zF n q bs size rows a2 a3 a5 (some (rowsLT rows)) (some (nI 0)) a12 a13 a14 a15 a16 a17 a18) (h := h) (h1 := h) (rd := fun h => (listOf h (rowsLT rows)).map enumT) (ts := enumT (rows.map lineT))
    (fun i τ h' => h' = h ∧ ∃ (s : Nat) (b3 b12 : Option T), τ = zF n q bs size rows a2 b3 a5 (some (rowsLT rows)) (some (nI s)) b12 a13 a14 a15 a16 a17 a18 ∧ decide (s < 2) = !(pairsB (rows.take i)).any fun p => decide (1 < cntP p)) rfl ⟨rfl, 0, a3, a12, rfl, rfl⟩ (fun _ _ _ _ => rfl) (fun i hi τ h' J => by
      obtain ⟨rfl, s, b3, b12, rfl, d⟩ := J
      rw [len] at hi
      have ei : (enumT (rows.map lineT))[i] = .tup [.int (i : Nat), lineT rows[i]] := by simp [enumT]
      rw [ei]
      obtain ⟨τ1, hτ1⟩ : ∃ τ1, τ1 = zF n q bs size rows a2 (some (nI i)) a5 (some (rowsLT rows)) (some (nI s)) (some (lineT rows[i])) a13 a14 a15 a16 a17 a18 := ⟨_, rfl⟩
      have cut := cut_take (ts := rows.map lineT) (k := i) (by rw [List.length_map]; omega)
      have v6 : eVar 6 τ1 h' = .ok (.lst (rows.map lineT)) h' := by rw [hτ1]; rfl
      have v3 : eVar 3 τ1 h' = .ok (nI i) h' := by rw [hτ1]; rfl
      have m1 : z3I τ1 h' = .ok (fun h => seqS h (.lst ((rows.take i).map lineT))) h' := by
        unfold z3I iSeqC eSl
        rw [v6]
        simp only [oNo, oSome, v3, TL.bSl, TL.listOf, cut, List.map_take]
        rfl
      have ev : ∀ o, z3E ((wipeT τ1 [13]).set 13 (some (lineT o))) h' = .ok (nI (cntP (rows[i], o))) h' := fun o => by
        rw [hτ1]
        have F := filt_ok nI rows[i] (fun c => decide (c ∈ o)) (f := eVar 12) (c := bTest (eOp TL.bIn (eVar 14) (eVar 13))) (j := 14) (τ := zF n q bs size rows a2 (some (nI i)) a5 (some (rowsLT rows)) (some (nI s)) (some (lineT rows[i])) (some (lineT o)) a14 a15 a16 a17 a18) (h := h') rfl (by have := ll _ (List.getElem_mem hi); omega) (fun c _ => test_ok ((op_ok (b := TL.bIn) (rfl : eVar 14 _ h' = .ok (nI c) h') (rfl : eVar 13 _ h' = .ok (lineT o) h')).trans (in_line c o h'))) (fun t => rfl)
        have L := hLenL F
        rw [List.length_map] at L
        exact L
      have inner := mLc_map (mi := z3I) (ws := [13]) (g := mgName 13) (e := z3E) (τ := τ1) (h := h') (ts := (rows.take i).map lineT) m1 rfl (by rw [List.length_map, List.length_take]; omega) (fun t => match z3E ((wipeT τ1 [13]).set 13 (some t)) h' with | .ok u _ => u | _ => .non) (fun t ht => by
        obtain ⟨o, ho, rfl⟩ := List.mem_map.mp ht
        refine ⟨_, rfl, ?_⟩
        show z3E ((wipeT τ1 [13]).set 13 (some (lineT o))) h' = _
        rw [ev o])
      have il : ((rows.take i).map lineT).map (fun t => match z3E ((wipeT τ1 [13]).set 13 (some t)) h' with | .ok u _ => u | _ => .non) = ((rows.take i).map fun o => cntP (rows[i], o)).map nI := by
        rw [List.map_map, List.map_map]
        refine List.map_congr_left fun o ho => ?_
        show (match z3E ((wipeT τ1 [13]).set 13 (some (lineT o))) h' with | .ok u _ => u | _ => T.non) = _
        rw [ev o]
        rfl
      rw [il] at inner
      have v11 : eVar 11 τ1 h' = .ok (nI s) h' := by rw [hτ1]; rfl
      have one : eL (aLim (aCons (eVar 11) aNil)) τ1 h' = .ok (.lst (([s] : List Nat).map nI)) h' := eL_ok (lim_ok (cons_ok v11 (rfl : aNil τ1 h' = .ok [] h')) (by simp))
      have A := (op_ok (b := TL.bAdd) one (eL_ok inner)).trans (addT h' (by simp; omega))
      have M := (call_ok (b := fMax) (cons_ok A (rfl : aNil τ1 h' = .ok [] h'))).trans (max_ok s _ h')
      obtain ⟨s2, hs2⟩ : ∃ s2, s2 = ((rows.take i).map fun o => cntP (rows[i], o)).foldl max s := ⟨_, rfl⟩
      rw [← hs2] at M
      have S : z3B τ1 h' = .nx (zF n q bs size rows a2 (some (nI i)) a5 (some (rowsLT rows)) (some (nI s2)) (some (lineT rows[i])) a13 a14 a15 a16 a17 a18) h' := by
        refine (set_ok (i := 11) M).trans ?_
        rw [hτ1]
        rfl
      refine ⟨τ1, h', _, h', by rw [hτ1]; rfl, .inl S, rfl, s2, _, _, rfl, ?_⟩
      rw [hs2, foldl_max_lt, d, pairsB_take hi, List.any_append, Bool.not_or]
      congr 1
      rw [List.any_map, List.all_map]
      rw [Bool.eq_iff_iff, List.all_eq_true, Bool.not_eq_true', List.any_eq_false]
      refine forall_congr' fun o => forall_congr' fun _ => ?_
      show decide (cntP (rows[i], o) < 2) = true ↔ ¬ decide (1 < cntP (rows[i], o)) = true
      rw [decide_eq_true_iff, decide_eq_true_iff]
      omega)
  rw [len, List.take_length] at d
  exact ⟨s, b3, b12, by rw [← e]; exact z, d⟩
end
end BD

set_option Elab.async false
set_option linter.all false
set_option maxRecDepth 100000
set_option maxHeartbeats 4000000
namespace BD
open PySem L2 TL K13 K06 K02
/-- what stands through the loops -/
structure Zf (n q : Nat) (bs : List Bd) (τ : TS_) : Prop where
  ln : τ.length = 19
  v0 : τ[0]? = some (some (.ref n))
  v1 : τ[1]? = some (some (.ref q))
  v4 : τ[4]? = some (some (.lst (bs.map fun b => T.str (gdS b))))
  v7 : τ[7]? = some (some (.lst (bs.map gdT)))
section
variable {n q : Nat} {bs : List Bd} {size : Nat} {rows : List (List Nat)}
theorem zG_ok (neg : Bool) (few : bs.length ≤ 1000) (h : VH) (a2 a3 a5 a6 a11 a12 a13 a14 a15 a16 a17 a18 : Option T) :
    zG neg (zF n q bs size rows a2 a3 a5 a6 a11 a12 a13 a14 a15 a16 a17 a18) h = .ok (.lst ((bs.map fun b => neg != (boardS size rows == gdS b)).map T.bl)) h := by
  obtain ⟨τ, hτ⟩ : ∃ τ, τ = zF n q bs size rows a2 a3 a5 a6 a11 a12 a13 a14 a15 a16 a17 a18 := ⟨_, rfl⟩
  have ev : ∀ b : Bd, eOp (bEqO 0 neg m_Board___eq__) (eVar 9) (eVar 17) ((wipeT τ [17]).set 17 (some (gdT b))) h = .ok (.bl (neg != (boardS size rows == gdS b))) h := fun b => by
    rw [hτ]
    exact (op_ok (b := bEqO 0 neg m_Board___eq__) (rfl : eVar 9 _ h = .ok (boardT size rows) h) (rfl : eVar 17 _ h = .ok (boardT b.1 b.2) h)).trans (eqO_boards neg b.1 b.2 h)
  have mi : iSeqC (eVar 7) τ h = .ok (fun h => seqS h (.lst (bs.map gdT))) h := by rw [hτ]; rfl
  have z := mLc_map (mi := iSeqC (eVar 7)) (ws := [17]) (g := mgName 17) (e := eOp (bEqO 0 neg m_Board___eq__) (eVar 9) (eVar 17)) (τ := τ) (h := h) (ts := bs.map gdT) mi rfl (by rw [List.length_map]; omega) (fun t => match eOp (bEqO 0 neg m_Board___eq__) (eVar 9) (eVar 17) ((wipeT τ [17]).set 17 (some t)) h with | .ok u _ => u | _ => .non) (fun t ht => by
    obtain ⟨b, _, rfl⟩ := List.mem_map.mp ht
    refine ⟨_, rfl, ?_⟩
    show eOp (bEqO 0 neg m_Board___eq__) (eVar 9) (eVar 17) ((wipeT τ [17]).set 17 (some (gdT b))) h = _
    rw [ev b])
  rw [← hτ]
  refine (eL_ok z).trans (congrArg (fun l => Res.ok (T.lst l) h) ?_)
  rw [List.map_map, List.map_map]
  refine List.map_congr_left fun b _ => ?_
  show (match eOp (bEqO 0 neg m_Board___eq__) (eVar 9) (eVar 17) ((wipeT τ [17]).set 17 (some (gdT b))) h with | .ok u _ => u | _ => T.non) = _
  rw [ev b]
  rfl
theorem zL_ok (f : T → T → VH → Res T) (p : Bool → Bool) (hf : ∀ (x y : Str) (h : VH), f (.str x) (.str y) h = .ok (.bl (p (x == y))) h) (few : bs.length ≤ 1000) (h : VH) (a2 a3 a5 a6 a11 a12 a13 a14 a15 a16 a17 a18 : Option T) :
    zL f (zF n q bs size rows a2 a3 a5 a6 a11 a12 a13 a14 a15 a16 a17 a18) h = .ok (.lst ((bs.map fun b => p (boardS size rows == gdS b)).map T.bl)) h := by
  obtain ⟨τ, hτ⟩ : ∃ τ, τ = zF n q bs size rows a2 a3 a5 a6 a11 a12 a13 a14 a15 a16 a17 a18 := ⟨_, rfl⟩
  have ev : ∀ x : Str, eOp f (eVar 8) (eVar 17) ((wipeT τ [17]).set 17 (some (.str x))) h = .ok (.bl (p (boardS size rows == x))) h := fun x => by
    rw [hτ]
    exact (op_ok (b := f) (rfl : eVar 8 _ h = .ok (.str (boardS size rows)) h) (rfl : eVar 17 _ h = .ok (.str x) h)).trans (hf _ _ h)
  have mi : iSeqC (eVar 4) τ h = .ok (fun h => seqS h (.lst (bs.map fun b => T.str (gdS b)))) h := by rw [hτ]; rfl
  have z := mLc_map (mi := iSeqC (eVar 4)) (ws := [17]) (g := mgName 17) (e := eOp f (eVar 8) (eVar 17)) (τ := τ) (h := h) (ts := bs.map fun b => T.str (gdS b)) mi rfl (by rw [List.length_map]; omega) (fun t => match eOp f (eVar 8) (eVar 17) ((wipeT τ [17]).set 17 (some t)) h with | .ok u _ => u | _ => .non) (fun t ht => by
    obtain ⟨b, _, rfl⟩ := List.mem_map.mp ht
    refine ⟨_, rfl, ?_⟩
    show eOp f (eVar 8) (eVar 17) ((wipeT τ [17]).set 17 (some (.str (gdS b)))) h = _
    rw [ev])
  rw [← hτ]
  refine (eL_ok z).trans (congrArg (fun l => Res.ok (T.lst l) h) ?_)
  rw [List.map_map, List.map_map]
  refine List.map_congr_left fun b _ => ?_
  show (match eOp f (eVar 8) (eVar 17) ((wipeT τ [17]).set 17 (some (.str (gdS b)))) h with | .ok u _ => u | _ => T.non) = _
  rw [ev]
  rfl
theorem z456_ok (R : Rows size rows) {s : Nat} (hs : decide (s < 2) = thinB rows) (h : VH) (a2 a3 a12 a13 a14 a15 a16 a17 a18 : Option T) {rest : MS} :
    ∃ b15 b16, sSeq z4 (sSeq z5 (sSeq z6 rest)) (zF n q bs size rows a2 a3 (some (nI size)) (some (rowsLT rows)) (some (nI s)) a12 a13 a14 a15 a16 a17 a18) h = rest (zF n q bs size rows a2 a3 (some (nI size)) (some (rowsLT rows)) (some (nI s)) a12 a13 a14 b15 b16 a17 a18) h := by
  have s1 := R.s1
  refine ⟨some (.lst (shBT size rows)), some (.lst (shBT size rows)), ?_⟩
  have S4 : z4 (zF n q bs size rows a2 a3 (some (nI size)) (some (rowsLT rows)) (some (nI s)) a12 a13 a14 a15 a16 a17 a18) h = .nx (zF n q bs size rows a2 a3 (some (nI size)) (some (rowsLT rows)) (some (nI s)) a12 a13 a14 (some (.lst (shBT size rows))) a16 a17 a18) h := by
    obtain ⟨τ, hτ⟩ : ∃ τ, τ = zF n q bs size rows a2 a3 (some (nI size)) (some (rowsLT rows)) (some (nI s)) a12 a13 a14 a15 a16 a17 a18 := ⟨_, rfl⟩
    have v9 : eVar 9 τ h = .ok (boardT size rows) h := by rw [hτ]; rfl
    have nil : aNil τ h = .ok [] h := rfl
    have a5 := (call_ok (b := fOwn1 0 m_Board___str__) (cons_ok v9 nil)).trans (bstr_ok h)
    have a6 := (call_ok (b := fOwn1 0 m_Board___repr__) (cons_ok v9 nil)).trans (brepr_ok (rows := rows) s1 h)
    have a7 : eCall (fBoolO 0) (aCons (eVar 9) aNil) τ h = .ok (.bl true) h := (call_ok (b := fBoolO 0) (cons_ok v9 nil)).trans rfl
    have A := cons_ok (prop0 v9 (text_ok h)) (cons_ok (prop0 v9 (bsize_ok h)) (cons_ok (prop0 v9 (blines_ok h)) (cons_ok (prop0 v9 (thin_ok R h)) (cons_ok a5 (cons_ok a6 (cons_ok a7 nil))))))
    rw [← hτ]
    refine (set_ok (i := 15) (eL_ok (lim_ok A (by simp)))).trans ?_
    rw [hτ]
    rfl
  have S5 : z5 (zF n q bs size rows a2 a3 (some (nI size)) (some (rowsLT rows)) (some (nI s)) a12 a13 a14 (some (.lst (shBT size rows))) a16 a17 a18) h = .nx (zF n q bs size rows a2 a3 (some (nI size)) (some (rowsLT rows)) (some (nI s)) a12 a13 a14 (some (.lst (shBT size rows))) (some (.lst (shBT size rows))) a17 a18) h := by
    obtain ⟨τ, hτ⟩ : ∃ τ, τ = zF n q bs size rows a2 a3 (some (nI size)) (some (rowsLT rows)) (some (nI s)) a12 a13 a14 (some (.lst (shBT size rows))) a16 a17 a18 := ⟨_, rfl⟩
    have v8 : eVar 8 τ h = .ok (.str (boardS size rows)) h := by rw [hτ]; rfl
    have v5 : eVar 5 τ h = .ok (nI size) h := by rw [hτ]; rfl
    have v6 : eVar 6 τ h = .ok (.lst (rows.map lineT)) h := by rw [hτ]; rfl
    have v11 : eVar 11 τ h = .ok (nI s) h := by rw [hτ]; rfl
    have nil : aNil τ h = .ok [] h := rfl
    have a3 : eCall fTuple (aCons (eVar 6) aNil) τ h = .ok (.tup (rows.map lineT)) h := (call_ok (b := fTuple) (cons_ok v6 nil)).trans rfl
    have a4 := (op_ok (b := TL.bLt) v11 (rfl : eK (.int 2) τ h = .ok (.int 2) h)).trans (hLt _ _ h)
    rw [show decide (((s : Nat) : Int) < 2) = thinB rows by rw [← hs]; exact decide_eq_decide.mpr (by omega)] at a4
    have nl := num_len s1
    have b1 : (("Board of " : String) : Str).length = 9 := by decide
    have b2 : ((" cells" : String) : Str).length = 6 := by decide
    have F := (call_ok (b := fStr) (cons_ok v5 nil)).trans (fStr_num s1 h)
    have S1 := (op_ok (b := TL.bAdd) (rfl : eK (.str "Board of ") τ h = .ok (.str "Board of ") h) F).trans (hAppS (by omega))
    have S2 := (op_ok (b := TL.bAdd) S1 (rfl : eK (.str " cells") τ h = .ok (.str " cells") h)).trans (hAppS (by rw [TL.len_app]; omega))
    have A := cons_ok v8 (cons_ok v5 (cons_ok a3 (cons_ok a4 (cons_ok v8 (cons_ok S2 (cons_ok (rfl : eK (.bl true) τ h = .ok (.bl true) h) nil))))))
    rw [← hτ]
    refine (set_ok (i := 16) (eL_ok (lim_ok A (by simp)))).trans ?_
    rw [hτ]
    rfl
  have S6 : z6 (zF n q bs size rows a2 a3 (some (nI size)) (some (rowsLT rows)) (some (nI s)) a12 a13 a14 (some (.lst (shBT size rows))) (some (.lst (shBT size rows))) a17 a18) h = .nx (zF n q bs size rows a2 a3 (some (nI size)) (some (rowsLT rows)) (some (nI s)) a12 a13 a14 (some (.lst (shBT size rows))) (some (.lst (shBT size rows))) a17 a18) h := by
    obtain ⟨τ, hτ⟩ : ∃ τ, τ = zF n q bs size rows a2 a3 (some (nI size)) (some (rowsLT rows)) (some (nI s)) a12 a13 a14 (some (.lst (shBT size rows))) (some (.lst (shBT size rows))) a17 a18 := ⟨_, rfl⟩
    have v15 : eVar 15 τ h = .ok (.lst (shBT size rows)) h := by rw [hτ]; rfl
    have v16 : eVar 16 τ h = .ok (.lst (shBT size rows)) h := by rw [hτ]; rfl
    have nil : aNil τ h = .ok [] h := rfl
    have P := showB_ok R h
    have C := test_ok ((op_ok (b := TL.bNe) ((call_ok (b := fRepr) (cons_ok v15 nil)).trans P) ((call_ok (b := fRepr) (cons_ok v16 nil)).trans P)).trans (TL.ne_strs _ _ h))
    rw [beq_self_eq_true] at C
    rw [← hτ]
    exact (if_f C).trans rfl
  exact (seq_nx S4).trans ((seq_nx S5).trans (seq_nx S6))
theorem z78_ok (few : bs.length ≤ 1000) (h : VH) (a2 a3 a5 a6 a11 a12 a13 a14 a15 a16 a17 a18 : Option T) {rest : MS} :
    sSeq z7 (sSeq z8 rest) (zF n q bs size rows a2 a3 a5 a6 a11 a12 a13 a14 a15 a16 a17 a18) h = rest (zF n q bs size rows a2 a3 a5 a6 a11 a12 a13 a14 a15 a16 a17 a18) h := by
  have C7 := test_ok ((op_ok (b := TL.bNe) (zG_ok (n := n) (q := q) (size := size) (rows := rows) false few h a2 a3 a5 a6 a11 a12 a13 a14 a15 a16 a17 a18) (zL_ok (n := n) (q := q) (size := size) (rows := rows) TL.bEq (fun b => false != b) (fun x y h => by rw [TL.eq_strs, Bool.false_bne]) few h a2 a3 a5 a6 a11 a12 a13 a14 a15 a16 a17 a18)).trans (ne_bls _ h))
  have C8 := test_ok ((op_ok (b := TL.bNe) (zG_ok (n := n) (q := q) (size := size) (rows := rows) true few h a2 a3 a5 a6 a11 a12 a13 a14 a15 a16 a17 a18) (zL_ok (n := n) (q := q) (size := size) (rows := rows) TL.bNe (fun b => true != b) (fun x y h => by rw [TL.ne_strs, Bool.true_bne]) few h a2 a3 a5 a6 a11 a12 a13 a14 a15 a16 a17 a18)).trans (ne_bls _ h))
  exact (seq_nx ((if_f C7).trans rfl)).trans (seq_nx ((if_f C8).trans rfl))
theorem z9_ok {h : VH} (V : Iv n h) (at_ : h[q]? = some (.lst (bs.map gdP))) (a2 a3 a5 a6 a11 a12 a13 a14 a15 a16 a17 a18 : Option T) :
    ∃ τ' h', z9 (zF n q bs size rows a2 a3 a5 a6 a11 a12 a13 a14 a15 a16 a17 a18) h = .nx τ' h' ∧ Iv n h' ∧ h'[q]? = some (.lst (bs.map gdP)) ∧ ∃ b18, τ' = zF n q bs size rows a2 a3 a5 a6 a11 a12 a13 a14 a15 a16 a17 b18 := by
  obtain ⟨τ, hτ⟩ : ∃ τ, τ = zF n q bs size rows a2 a3 a5 a6 a11 a12 a13 a14 a15 a16 a17 a18 := ⟨_, rfl⟩
  obtain ⟨k, hk⟩ : ∃ k, k = h ++ [VO.dct []] := ⟨_, rfl⟩
  obtain ⟨L, hL⟩ : ∃ L, L = h.length := ⟨_, rfl⟩
  have dt : k[L]? = some (.dct []) := by rw [hk, hL]; simp
  have Vk : Iv n k := by rw [hk]; exact V.app (fun m => rfl)
  have atk : k[q]? = some (.lst (bs.map gdP)) := by rw [hk, List.getElem?_append_left (List.getElem?_eq_some_iff.mp at_).1]; exact at_
  have v8 : eVar 8 τ h = .ok (.str (boardS size rows)) h := by rw [hτ]; rfl
  have v9 : eVar 9 τ h = .ok (boardT size rows) h := by rw [hτ]; rfl
  have one : eL (aLim (aCons (eVar 9) aNil)) τ h = .ok (.lst [boardT size rows]) h := eL_ok (lim_ok (cons_ok v9 (rfl : aNil τ h = .ok [] h)) (by simp))
  have tp : eTup (aCons (eVar 8) aNil) τ h = .ok (.tup [.str (boardS size rows)]) h := by
    unfold eTup
    rw [cons_ok v8 (rfl : aNil τ h = .ok [] h)]
    rfl
  have dn : eDNew τ h = .ok (.ref L) k := by rw [hk, hL]; rfl
  have A := cons_ok (rfl : eK .non τ h = .ok .non h) (cons_ok (rfl : eK (.int 0) τ h = .ok (.int 0) h) (cons_ok v8 (cons_ok tp (cons_ok one (cons_ok dn (cons_ok (rfl : eK (.bl true) τ k = .ok (.bl true) k) (rfl : aNil τ k = .ok [] k)))))))
  obtain ⟨ts, hts⟩ : ∃ ts, ts = [T.non, .int 0, .str (boardS size rows), .tup [.str (boardS size rows)], .lst [boardT size rows], .ref L, .bl true] := ⟨_, rfl⟩
  rw [← hts] at A
  have mi : z9I τ h = .ok (fun h => seqS h (.lst ts)) k := by
    have z := eL_ok (lim_ok A (by rw [hts]; simp))
    unfold z9I iSeqC
    rw [z]
    rfl
  have odd : ∀ u ∈ ts, NoBoard u k := by
    intro u hu
    rw [hts] at hu
    simp only [List.mem_cons, List.not_mem_nil, or_false] at hu
    rcases hu with rfl | rfl | rfl | rfl | rfl | rfl | rfl
    · exact ⟨_, rfl, rfl⟩
    · exact ⟨_, rfl, rfl⟩
    · exact ⟨_, rfl, rfl⟩
    · exact ⟨_, rfl, rfl⟩
    · exact ⟨_, rfl, rfl⟩
    · exact ⟨.b "dict", by simp [tyOf, dt], rfl⟩
    · exact ⟨_, rfl, rfl⟩
  obtain ⟨τ', h', z, rfl, b18, e⟩ := sFor_inv (mi := z9I) (g := mgName 18) (body := z9B) (τ := τ) (h := h) (h1 := k) (rd := fun h => seqS h (.lst ts)) (ts := ts)
    (fun _ τ h' => h' = k ∧ ∃ a18, τ = zF n q bs size rows a2 a3 a5 a6 a11 a12 a13 a14 a15 a16 a17 a18) mi ⟨rfl, a18, hτ⟩ (fun _ _ _ _ => rfl) (fun i hi τ h' J => by
      obtain ⟨rfl, b18, rfl⟩ := J
      obtain ⟨u, hu⟩ : ∃ u, u = ts[i] := ⟨_, rfl⟩
      have no := odd u (by rw [hu]; exact List.getElem_mem _)
      rw [← hu]
      have w9 : eVar 9 (zF n q bs size rows a2 a3 a5 a6 a11 a12 a13 a14 a15 a16 a17 (some u)) h' = .ok (boardT size rows) h' := rfl
      have w18 : eVar 18 (zF n q bs size rows a2 a3 a5 a6 a11 a12 a13 a14 a15 a16 a17 (some u)) h' = .ok u h' := rfl
      have D1 := test_ok ((op_ok (b := bEqO 0 false m_Board___eq__) w9 w18).trans (eqO_oddB false no))
      have D2 := test_ok ((op_ok (b := bEqO 0 true m_Board___eq__) w9 w18).trans (eqO_oddB true no))
      have W := hOr D1 (fun _ => hNot D2)
      exact ⟨_, h', zF n q bs size rows a2 a3 a5 a6 a11 a12 a13 a14 a15 a16 a17 (some u), h', rfl, .inl ((if_f W).trans rfl), rfl, _, rfl⟩)
  rw [hτ] at z
  exact ⟨τ', h', z, Vk, atk, b18, e⟩
theorem zB_ok (R : Rows size rows) (few : bs.length ≤ 1000) {h : VH} (V : Iv n h) (at_ : h[q]? = some (.lst (bs.map gdP))) (a2 a3 a5 a6 a11 a12 a13 a14 a15 a16 a17 a18 : Option T) :
    ∃ τ' h', zB (zF n q bs size rows a2 a3 a5 a6 a11 a12 a13 a14 a15 a16 a17 a18) h = .nx τ' h' ∧ Iv n h' ∧ h'[q]? = some (.lst (bs.map gdP)) ∧ Zf n q bs τ' := by
  have S1 : z1 (zF n q bs size rows a2 a3 a5 a6 a11 a12 a13 a14 a15 a16 a17 a18) h = .nx (zF n q bs size rows a2 a3 (some (nI size)) (some (rowsLT rows)) a11 a12 a13 a14 a15 a16 a17 a18) h := rfl
  have S2 : z2 (zF n q bs size rows a2 a3 (some (nI size)) (some (rowsLT rows)) a11 a12 a13 a14 a15 a16 a17 a18) h = .nx (zF n q bs size rows a2 a3 (some (nI size)) (some (rowsLT rows)) (some (nI 0)) a12 a13 a14 a15 a16 a17 a18) h := rfl
  obtain ⟨s, b3, b12, S3, hs⟩ := z3_ok (n := n) (q := q) (bs := bs) R h a2 a3 (some (nI size)) a12 a13 a14 a15 a16 a17 a18
  obtain ⟨b15, b16, S4⟩ := z456_ok (n := n) (q := q) (bs := bs) R hs h a2 b3 b12 a13 a14 a15 a16 a17 a18 (rest := sSeq z7 (sSeq z8 z9))
  have S7 := z78_ok (n := n) (q := q) (size := size) (rows := rows) few h a2 b3 (some (nI size)) (some (rowsLT rows)) (some (nI s)) b12 a13 a14 b15 b16 a17 a18 (rest := z9)
  obtain ⟨τ', h', S9, V', at2, b18, e⟩ := z9_ok (n := n) (size := size) (rows := rows) V at_ a2 b3 (some (nI size)) (some (rowsLT rows)) (some (nI s)) b12 a13 a14 b15 b16 a17 a18
  exact ⟨τ', h', (seq_nx S1).trans ((seq_nx S2).trans ((seq_nx S3).trans (S4.trans (S7.trans S9)))), V', at2, by rw [e]; exact ⟨rfl, rfl, rfl, rfl, rfl⟩⟩
end
end BD

set_option Elab.async false
set_option linter.all false
set_option maxRecDepth 100000
set_option maxHeartbeats 4000000
namespace BD
open PySem L2 TL K13 K06 K02
def y1A : ME := (eL (mLc (iRange1 (aCons (eK (.int 4)) aNil)) [2] (mgName 2) bYes (eCall m_law_board (aCons (eVar 0) aNil))))
def y1B : ME := (eL (aLim (aCons (eTup (aCons (eK (.int 1)) (aCons (eL (aLim aNil)) aNil))) (aCons (eTup (aCons (eK (.int 1)) (aCons (eL (aLim (aCons (eTup (aCons (eK (.int 0)) aNil)) aNil))) aNil))) (aCons (eTup (aCons (eK (.int 30)) (aCons (eL (mLc (iRange1 (aCons (eK (.int 30)) aNil)) [3] (mgName 3) bYes (eTup (aCons (eVar 3) aNil)))) aNil))) aNil)))))
def y1 : MS := (sSet 1 (eH (mCat y1A y1B)))
def y2B : ME := (eL (aLim (aCons (eTup (aCons (eK (.int 30)) (aCons (eL (aLim (aCons (eCall fTuple (aCons (eL (mRg1 (eK (.int 30)))) aNil)) aNil))) aNil))) (aCons (eTup (aCons (eK (.int 2)) (aCons (eL (aLim aNil)) aNil))) aNil))))
def y2 : MS := (sSet 1 (eH (mCat (eVar 1) y2B)))
def y3 : MS := (sExpr (eMt "list" mAppend (eVar 1) (aCons (eOp TL.bIx (eVar 1) (eK (.int 0))) aNil)))
def y4E : ME := (eCall m_law_word_of (aCons (eVar 5) (aCons (eVar 6) aNil)))
def y4 : MS := (sSet 4 (eL (mLc (iSeqC (eVar 1)) [5, 6] (mgTup 2 (mgsCons (mgName 5) (mgsCons (mgName 6) mgsNil))) bYes y4E)))
def y5E : ME := (eIf (bTest (eOp TL.bEq (eCall m_law_draw (aCons (eVar 0) (aCons (eK (.int 2)) aNil))) (eK (.int 0)))) (eCall (cutM (makeM 0 m_Board___init__)) (aCons (eVar 8) aNil)) (eCall (cutM (makeM 0 m_Board___init__)) (aPerm [0] (aCons (eVar 8) aNil))))
def y5 : MS := (sSet 7 (eL (mLc (iSeqC (eVar 4)) [8] (mgName 8) bYes y5E)))
def yZ : MS := (sFor (iZip3M (aCons (eVar 7) (aCons (eVar 1) (aCons (eVar 4) aNil)))) (mgTup 3 (mgsCons (mgName 9) (mgsCons (mgName 10) (mgsCons (mgName 8) mgsNil)))) zB)
def y6 : MS := (sFor (iRange1 (aCons (eK (.int 2)) aNil)) (mgName 2) yZ)
theorem K02right_eq : K02.s_law_right = sSeq y1 (sSeq y2 (sSeq y3 (sSeq y4 (sSeq y5 (sSeq y6 (sRet (eK (.bl true)))))))) := rfl
theorem eV_at {i : Nat} {τ : TS_} {t : T} (e : τ[i]? = some (some t)) (h : VH) : eVar i τ h = .ok t h := by unfold eVar; rw [e]
theorem tup_ok {g : MA} {τ : TS_} {h h1 : VH} {ts : List T} (e : g τ h = .ok ts h1) (hl : ts.length ≤ 16777216) : eTup g τ h = .ok (.tup ts) h1 := by
  unfold eTup
  rw [e]
  exact if_pos hl
def allR (bs : List Bd) : Prop := ∀ b ∈ bs, Rows b.1 b.2
theorem rows1 : Rows 1 [] := ⟨by omega, by omega, by decide, (fun l h => nomatch h), List.Pairwise.nil⟩
theorem rows2 : Rows 2 [] := ⟨by omega, by omega, by decide, (fun l h => nomatch h), List.Pairwise.nil⟩
theorem rows3 : Rows 1 [[0]] := ⟨by omega, by omega, by decide, fun l h => by rw [List.mem_singleton.mp h]; exact ⟨by decide, by decide, by decide⟩, List.pairwise_singleton ..⟩
def ones : List (List Nat) := (List.range 30).map fun k => [k]
theorem rows4 : Rows 30 ones := by
  refine ⟨by omega, by omega, by decide, fun l h => ?_, ?_⟩
  · obtain ⟨k, hk, rfl⟩ := List.mem_map.mp h
    exact ⟨by simp, List.pairwise_singleton .., fun c hc => by rw [List.mem_singleton.mp hc]; exact List.mem_range.mp hk⟩
  · unfold ones
    rw [List.pairwise_map]
    refine List.pairwise_lt_range.imp fun {a b} h => ?_
    have := rowLt_eq [a] [b]
    unfold lnD at this
    rw [this, decide_eq_true_iff]
    simp only [List.map_cons, List.map_nil]
    exact List.cons_lt_cons_iff.mpr (.inl (by omega))
theorem rows5 : Rows 30 [List.range 30] := by
  refine ⟨by omega, by omega, by decide, fun l h => ?_, List.pairwise_singleton ..⟩
  rw [List.mem_singleton.mp h]
  exact ⟨by decide, List.pairwise_lt_range, fun c hc => List.mem_range.mp hc⟩
def mid : List Bd := [(1, []), (1, [[0]]), (30, ones)]
def mid2 : List Bd := [(30, [List.range 30]), (2, [])]
section
variable {n : Nat}
theorem y1A_ok {h : VH} (V : Iv n h) {τ : TS_} (ln : τ.length = 19) (v0 : τ[0]? = some (some (.ref n))) :
    ∃ (bs : List Bd) (h' : VH), y1A τ h = .ok (.lst (bs.map gdP)) h' ∧ Iv n h' ∧ bs.length = 4 ∧ allR bs := by
  obtain ⟨acc, h', z, V', bs, l, rfl, R⟩ := mLc_inv (mi := iRange1 (aCons (eK (.int 4)) aNil)) (ws := [2]) (g := mgName 2) (e := eCall m_law_board (aCons (eVar 0) aNil)) (τ := τ) (h := h) (h1 := h) (rd := fun _ => some (rangeT 0 4)) (ts := rangeT 0 4) (rngk (K := 4) rfl (by omega)) (fun _ => rfl) (by simp [rangeT])
    (fun i acc h => Iv n h ∧ ∃ bs : List Bd, bs.length = i ∧ acc = bs.map gdP ∧ allR bs) ⟨V, [], rfl, rfl, fun b hb => by cases hb⟩ (fun i hi acc h J => by
      obtain ⟨V, bs, l, rfl, R⟩ := J
      obtain ⟨size, rows, h', e, V', Rw, _, _, _, _, _⟩ := board_ok V
      have w0 : eVar 0 ((wipeT τ [2]).set 2 (some (rangeT 0 4)[i])) h = .ok (.ref n) h := eV_at (by
        show ((τ.set 2 none).set 2 _)[0]? = _
        rw [List.getElem?_set_ne (by omega), List.getElem?_set_ne (by omega)]
        exact v0) h
      refine ⟨_, gdP (size, rows), h', rfl, (call_ok (b := m_law_board) (cons_ok w0 (rfl : aNil _ h = .ok [] h))).trans e, V', bs ++ [(size, rows)], by simp [l], by simp, fun b hb => ?_⟩
      rcases List.mem_append.mp hb with hb | hb
      · exact R b hb
      · rw [List.mem_singleton.mp hb]; exact Rw)
  exact ⟨bs, h', eL_ok z, V', by rw [l]; simp [rangeT], R⟩
theorem y1B_ok (h : VH) (τ : TS_) (ln : τ.length = 19) : y1B τ h = .ok (.lst (mid.map gdP)) h := by
  have o := rgc_ok (g := aCons (eK (.int 30)) aNil) (e := eTup (aCons (eVar 3) aNil)) (j := 3) (K := 30) (τ := τ) (h := h) (rngk (K := 30) rfl (by omega)) (by omega) (fun k => lineT [k]) (fun i hi => by
    have w : eVar 3 ((wipeT τ [3]).set 3 (some (nI i))) h = .ok (nI i) h := eV_at (by
      show ((τ.set 3 none).set 3 _)[3]? = _
      exact List.getElem?_set_self (by rw [List.length_set, ln]; omega)) h
    unfold eTup
    rw [cons_ok w (rfl : aNil _ h = .ok [] h)]
    rfl)
  have a1 : eTup (aCons (eK (.int 1)) (aCons (eL (aLim aNil)) aNil)) τ h = .ok (gdP (1, [])) h := rfl
  have a2 : eTup (aCons (eK (.int 1)) (aCons (eL (aLim (aCons (eTup (aCons (eK (.int 0)) aNil)) aNil))) aNil)) τ h = .ok (gdP (1, [[0]])) h := rfl
  have a3 : eTup (aCons (eK (.int 30)) (aCons (eL (mLc (iRange1 (aCons (eK (.int 30)) aNil)) [3] (mgName 3) bYes (eTup (aCons (eVar 3) aNil)))) aNil)) τ h = .ok (gdP (30, ones)) h := by
    refine (tup_ok (cons_ok (rfl : eK (.int 30) τ h = .ok (.int 30) h) (cons_ok o (rfl : aNil τ h = .ok [] h))) (by simp)).trans ?_
    show Res.ok (T.tup _) h = Res.ok (T.tup [nI 30, .lst (((List.range 30).map fun k => [k]).map lineT)]) h
    rw [List.map_map]
    rfl
  exact eL_ok (lim_ok (cons_ok a1 (cons_ok a2 (cons_ok a3 (rfl : aNil τ h = .ok [] h)))) (by simp [mid]))
theorem y2B_ok (h : VH) (τ : TS_) : y2B τ h = .ok (.lst (mid2.map gdP)) h := by
  have r : eL (mRg1 (eK (.int 30))) τ h = .ok (.lst ((List.range 30).map nI)) h := by
    rw [← range_nI]
    rfl
  have t : eCall fTuple (aCons (eL (mRg1 (eK (.int 30)))) aNil) τ h = .ok (lineT (List.range 30)) h := tupLine r
  have l := eL_ok (lim_ok (cons_ok t (rfl : aNil τ h = .ok [] h)) (by simp))
  have a1 : eTup (aCons (eK (.int 30)) (aCons (eL (aLim (aCons (eCall fTuple (aCons (eL (mRg1 (eK (.int 30)))) aNil)) aNil))) aNil)) τ h = .ok (gdP (30, [List.range 30])) h := by
    unfold eTup
    rw [cons_ok (rfl : eK (.int 30) τ h = .ok (.int 30) h) (cons_ok l (rfl : aNil τ h = .ok [] h))]
    rfl
  have a2 : eTup (aCons (eK (.int 2)) (aCons (eL (aLim aNil)) aNil)) τ h = .ok (gdP (2, [])) h := rfl
  exact eL_ok (lim_ok (cons_ok a1 (cons_ok a2 (rfl : aNil τ h = .ok [] h))) (by simp [mid2]))
theorem gdP_low (bs : List Bd) (m : Nat) : VO.lowR m (.lst (bs.map gdP)) = true := by
  have rl : ∀ rows : List (List Nat), lowRs m (rows.map lineT) = true := by
    intro rows
    induction rows with
    | nil => rfl
    | cons l rows ih =>
      simp only [List.map_cons, lowRs, ih, Bool.and_true]
      unfold lineT
      simp only [T.lowR]
      exact ints_low l m
  show lowRs m (bs.map gdP) = true
  induction bs with
  | nil => rfl
  | cons b bs ih =>
    simp only [List.map_cons, lowRs, ih, Bool.and_true]
    unfold gdP rowsLT
    simp only [T.lowR, lowRs, rl, Bool.and_true]
theorem y123_ok {h : VH} (V : Iv n h) (a1 a2 a3 a4 a5 a6 a7 a8 a9 a10 a11 a12 a13 a14 a15 a16 a17 a18 : Option T) {rest : MS} :
    ∃ (bs : List Bd) (q : Nat) (h' : VH), sSeq y1 (sSeq y2 (sSeq y3 rest)) [some (.ref n), a1, a2, a3, a4, a5, a6, a7, a8, a9, a10, a11, a12, a13, a14, a15, a16, a17, a18] h = rest [some (.ref n), some (.ref q), a2, a3, a4, a5, a6, a7, a8, a9, a10, a11, a12, a13, a14, a15, a16, a17, a18] h' ∧ Iv n h' ∧ h'[q]? = some (.lst (bs.map gdP)) ∧ n ≠ q ∧ bs.length = 10 ∧ allR bs := by
  obtain ⟨τ, hτ⟩ : ∃ τ, τ = [some (.ref n), a1, a2, a3, a4, a5, a6, a7, a8, a9, a10, a11, a12, a13, a14, a15, a16, a17, a18] := ⟨_, rfl⟩
  obtain ⟨bs, h1, e1, V1, l1, R1⟩ := y1A_ok V (τ := τ) (by rw [hτ]; rfl) (by rw [hτ]; rfl)
  have S1 : y1 τ h = .nx (τ.set 1 (some (.ref h1.length))) (h1 ++ [.lst ((bs ++ mid).map gdP)]) := by
    refine (set_ok (i := 1) (t := .ref h1.length) (h1 := h1 ++ [.lst ((bs ++ mid).map gdP)]) ?_).trans rfl
    have z : mCat y1A y1B τ h = .ok ((bs ++ mid).map gdP) h1 := by
      unfold mCat
      rw [e1]
      simp only [y1B_ok h1 τ (by rw [hτ]; rfl), TL.listOf]
      rw [List.map_append]
      first | rfl | exact if_pos (by simp [l1, mid]) | skip
    unfold eH
    rw [z]
  obtain ⟨h2, e2⟩ : ∃ h2, h2 = h1 ++ [VO.lst ((bs ++ mid).map gdP)] := ⟨_, rfl⟩
  rw [← e2] at S1
  have V2 : Iv n h2 := by rw [e2]; exact V1.app (gdP_low _)
  have at2 : h2[h1.length]? = some (.lst ((bs ++ mid).map gdP)) := by rw [e2]; simp
  obtain ⟨τ2, hτ2⟩ : ∃ τ2, τ2 = τ.set 1 (some (.ref h1.length)) := ⟨_, rfl⟩
  rw [← hτ2] at S1
  have w1 : eVar 1 τ2 h2 = .ok (.ref h1.length) h2 := by rw [hτ2, hτ]; rfl
  have S2 : y2 τ2 h2 = .nx (τ2.set 1 (some (.ref h2.length))) (h2 ++ [.lst ((bs ++ mid ++ mid2).map gdP)]) := by
    refine (set_ok (i := 1) (t := .ref h2.length) (h1 := h2 ++ [.lst ((bs ++ mid ++ mid2).map gdP)]) ?_).trans rfl
    have z : mCat (eVar 1) y2B τ2 h2 = .ok ((bs ++ mid ++ mid2).map gdP) h2 := by
      unfold mCat
      rw [w1]
      simp only [y2B_ok h2 τ2, TL.listOf, at2]
      rw [List.map_append (l₁ := bs ++ mid)]
      first | rfl | exact if_pos (by simp [l1, mid, mid2]) | skip
    unfold eH
    rw [z]
  obtain ⟨h3, e3⟩ : ∃ h3, h3 = h2 ++ [VO.lst ((bs ++ mid ++ mid2).map gdP)] := ⟨_, rfl⟩
  rw [← e3] at S2
  have V3 : Iv n h3 := by rw [e3]; exact V2.app (gdP_low _)
  have at3 : h3[h2.length]? = some (.lst ((bs ++ mid ++ mid2).map gdP)) := by rw [e3]; simp
  obtain ⟨τ3, hτ3⟩ : ∃ τ3, τ3 = τ2.set 1 (some (.ref h2.length)) := ⟨_, rfl⟩
  rw [← hτ3] at S2
  have w3 : eVar 1 τ3 h3 = .ok (.ref h2.length) h3 := by rw [hτ3, hτ2, hτ]; rfl
  obtain ⟨b0, bs', eb⟩ : ∃ b0 bs', bs = b0 :: bs' := by
    cases bs with
    | nil => simp at l1
    | cons b bs => exact ⟨b, bs, rfl⟩
  have ix : eOp TL.bIx (eVar 1) (eK (.int 0)) τ3 h3 = .ok (gdP b0) h3 := by
    refine (op_ok (b := TL.bIx) w3 (rfl : eK (.int 0) τ3 h3 = .ok (.int 0) h3)).trans ?_
    have a : atI ((bs ++ mid ++ mid2).map gdP) 0 = some (gdP b0) := by rw [ix_nn (by omega) (by simp [l1]; omega), eb]; rfl
    simp only [TL.bIx, TL.listOf, at3, a]
  have S3 := app2_ok (p := h2.length) (h := h3) (h2 := h3) at3 at3 (by simp [l1, mid, mid2]) w3 ix
  have ne : h2.length ≠ n := by have := V2.lt; omega
  refine ⟨bs ++ mid ++ mid2 ++ [b0], h2.length, h3.set h2.length (.lst ((bs ++ mid ++ mid2 ++ [b0]).map gdP)), ?_, V3.put ne (gdP_low _), ?_, ne.symm, by simp [l1, mid, mid2], ?_⟩
  · rw [← hτ]
    have S3' : y3 τ3 h3 = .nx τ3 (h3.set h2.length (.lst ((bs ++ mid ++ mid2 ++ [b0]).map gdP))) := by
      refine S3.trans ?_
      rw [List.map_append (l₁ := bs ++ mid ++ mid2)]
      rfl
    refine (seq_nx S1).trans ((seq_nx S2).trans ((seq_nx S3').trans ?_))
    rw [hτ3, hτ2, hτ]
    rfl
  · exact List.getElem?_set_self (by rw [e3]; simp)
  · intro b hb
    rcases List.mem_append.mp hb with hb | hb
    · rcases List.mem_append.mp hb with hb | hb
      · rcases List.mem_append.mp hb with hb | hb
        · exact R1 b hb
        · simp only [mid, List.mem_cons, List.not_mem_nil, or_false] at hb
          rcases hb with rfl | rfl | rfl
          · exact rows1
          · exact rows3
          · exact rows4
      · simp only [mid2, List.mem_cons, List.not_mem_nil, or_false] at hb
        rcases hb with rfl | rfl
        · exact rows5
        · exact rows2
    · rw [List.mem_singleton.mp hb]
      exact R1 b0 (by rw [eb]; exact List.mem_cons_self)
end
end BD

set_option Elab.async false
set_option linter.all false
set_option maxRecDepth 100000
set_option maxHeartbeats 4000000
namespace BD
open PySem L2 TL K13 K06 K02
section
variable {n q : Nat} {bs : List Bd}
theorem y4_ok (R : allR bs) (few : bs.length ≤ 1000) {h : VH} (at_ : h[q]? = some (.lst (bs.map gdP))) {τ : TS_} (ln : τ.length = 19) (v1 : τ[1]? = some (some (.ref q))) :
    y4 τ h = .nx (τ.set 4 (some (.lst (bs.map fun b => T.str (gdS b))))) h := by
  have w1 := eV_at v1 h
  have sq : seqS h (.ref q) = some (bs.map gdP) := by simp [seqS, TL.seqOf, TL.listOf, at_]
  have mi : iSeqC (eVar 1) τ h = .ok (fun h => seqS h (.ref q)) h := by
    unfold iSeqC
    rw [w1]
    simp only [walkable, sq, Option.isSome_some, if_true]
  have fr : ∀ b : Bd, mgTup 2 (mgsCons (mgName 5) (mgsCons (mgName 6) mgsNil)) (gdP b) (wipeT τ [5, 6]) h = .ok (((wipeT τ [5, 6]).set 5 (some (nI b.1))).set 6 (some (rowsLT b.2))) h := fun b => rfl
  have wl : (wipeT τ [5, 6]).length = 19 := by
    show ((τ.set 6 none).set 5 none).length = 19
    rw [List.length_set, List.length_set, ln]
  have ev : ∀ b ∈ bs, y4E (((wipeT τ [5, 6]).set 5 (some (nI b.1))).set 6 (some (rowsLT b.2))) h = .ok (.str (gdS b)) h := fun b hb => by
    have a5 := eV_at (i := 5) (τ := ((wipeT τ [5, 6]).set 5 (some (nI b.1))).set 6 (some (rowsLT b.2))) (t := nI b.1) (by rw [List.getElem?_set_ne (by omega)]; exact List.getElem?_set_self (by omega)) h
    have a6 := eV_at (i := 6) (τ := ((wipeT τ [5, 6]).set 5 (some (nI b.1))).set 6 (some (rowsLT b.2))) (t := rowsLT b.2) (List.getElem?_set_self (by rw [List.length_set]; omega)) h
    exact (call_ok (b := m_law_word_of) (cons_ok a5 (cons_ok a6 (rfl : aNil _ h = .ok [] h)))).trans (word_ok (R b hb) h)
  have z := mLc_map (mi := iSeqC (eVar 1)) (ws := [5, 6]) (g := mgTup 2 (mgsCons (mgName 5) (mgsCons (mgName 6) mgsNil))) (e := y4E) (τ := τ) (h := h) (ts := bs.map gdP) mi sq (by rw [List.length_map]; omega) (fun t => match mgTup 2 (mgsCons (mgName 5) (mgsCons (mgName 6) mgsNil)) t (wipeT τ [5, 6]) h with | .ok τ1 h1 => (match y4E τ1 h1 with | .ok u _ => u | _ => .non) | _ => .non) (fun t ht => by
    obtain ⟨b, hb, rfl⟩ := List.mem_map.mp ht
    refine ⟨_, fr b, ?_⟩
    rw [ev b hb, fr b]
    simp only [ev b hb])
  refine (set_ok (i := 4) (eL_ok z)).trans (congrArg (fun l => Out.nx (τ.set 4 (some (T.lst l))) h) ?_)
  rw [List.map_map]
  refine List.map_congr_left fun b hb => ?_
  show (match mgTup 2 (mgsCons (mgName 5) (mgsCons (mgName 6) mgsNil)) (gdP b) (wipeT τ [5, 6]) h with | .ok τ1 h1 => (match y4E τ1 h1 with | .ok u _ => u | _ => T.non) | _ => T.non) = _
  rw [fr b]
  simp only [ev b hb]
theorem y5_ok (R : allR bs) (few : bs.length ≤ 1000) (ne : n ≠ q) {h : VH} (V : Iv n h) (at_ : h[q]? = some (.lst (bs.map gdP))) {τ : TS_} (ln : τ.length = 19) (v0 : τ[0]? = some (some (.ref n))) (v4 : τ[4]? = some (some (.lst (bs.map fun b => T.str (gdS b))))) :
    ∃ h', y5 τ h = .nx (τ.set 7 (some (.lst (bs.map gdT)))) h' ∧ Iv n h' ∧ h'[q]? = some (.lst (bs.map gdP)) := by
  have w4 := eV_at v4 h
  have mi : iSeqC (eVar 4) τ h = .ok (fun h => seqS h (.lst (bs.map fun b => T.str (gdS b)))) h := by
    unfold iSeqC
    rw [w4]
    rfl
  obtain ⟨acc, h', z, V', at2, e⟩ := mLc_inv (mi := iSeqC (eVar 4)) (ws := [8]) (g := mgName 8) (e := y5E) (τ := τ) (h := h) (h1 := h) (rd := fun h => seqS h (.lst (bs.map fun b => T.str (gdS b)))) (ts := bs.map fun b => T.str (gdS b)) mi (fun _ => rfl) (by rw [List.length_map]; omega)
    (fun i acc h => Iv n h ∧ h[q]? = some (.lst (bs.map gdP)) ∧ acc = (bs.take i).map gdT) ⟨V, at_, rfl⟩ (fun i hi acc h J => by
      obtain ⟨V, at_, rfl⟩ := J
      rw [List.length_map] at hi
      have ei : (bs.map fun b => T.str (gdS b))[i] = .str (gdS bs[i]) := List.getElem_map ..
      rw [ei]
      obtain ⟨τ1, hτ1⟩ : ∃ τ1, τ1 = (wipeT τ [8]).set 8 (some (T.str (gdS bs[i]))) := ⟨_, rfl⟩
      have w0 : eVar 0 τ1 h = .ok (.ref n) h := eV_at (by
        rw [hτ1]
        show ((τ.set 8 none).set 8 _)[0]? = _
        rw [List.getElem?_set_ne (by omega), List.getElem?_set_ne (by omega)]
        exact v0) h
      obtain ⟨c, o, e1, lt, io⟩ := draw_ok (k := 2) V (by omega) (by omega)
      have V2 := V.draw io
      have at2 : (h.set n o)[q]? = some (.lst (bs.map gdP)) := by rw [List.getElem?_set_ne ne]; exact at_
      obtain ⟨h2, eh⟩ : ∃ h2, h2 = h.set n o := ⟨_, rfl⟩
      rw [← eh] at e1 V2 at2
      have w8 : eVar 8 τ1 h2 = .ok (.str (gdS bs[i])) h2 := eV_at (by
        rw [hτ1]
        show ((τ.set 8 none).set 8 _)[8]? = _
        exact List.getElem?_set_self (by rw [List.length_set, ln]; omega)) h2
      have mk := make_ok (R _ (List.getElem_mem hi)) (V2.fl.low h2.length)
      have A : eCall (cutM (makeM 0 m_Board___init__)) (aCons (eVar 8) aNil) τ1 h2 = .ok (gdT bs[i]) h2 := (call_ok (b := cutM (makeM 0 m_Board___init__)) (cons_ok w8 (rfl : aNil τ1 h2 = .ok [] h2))).trans mk
      have B : eCall (cutM (makeM 0 m_Board___init__)) (aPerm [0] (aCons (eVar 8) aNil)) τ1 h2 = .ok (gdT bs[i]) h2 := by
        refine (call_ok (b := cutM (makeM 0 m_Board___init__)) (ts := [.str (gdS bs[i])]) ?_).trans mk
        unfold aPerm
        rw [cons_ok w8 (rfl : aNil τ1 h2 = .ok [] h2)]
        rfl
      have C := test_ok ((op_ok (b := TL.bEq) (dK w0 e1) (rfl : eK (.int 0) τ1 h2 = .ok (.int 0) h2)).trans (hEq _ _ h2))
      have E : y5E τ1 h = .ok (gdT bs[i]) h2 := by
        unfold y5E
        by_cases k : ((c : Nat) : Int) = 0
        · rw [decide_eq_true k] at C
          exact (hIfT C).trans A
        · rw [decide_eq_false k] at C
          exact (hIfF C).trans B
      refine ⟨τ1, gdT bs[i], h2, by rw [hτ1]; rfl, E, V2, at2, ?_⟩
      rw [List.take_succ_eq_append_getElem hi, List.map_append]
      rfl)
  refine ⟨h', ?_, V', at2⟩
  rw [List.length_map, List.take_length] at e
  rw [e] at z
  exact set_ok (eL_ok z)
theorem zip3_maps {α : Type} (f g k : α → T) : ∀ l : List α, zip3T (l.map f) (l.map g) (l.map k) = l.map fun a => T.tup [f a, g a, k a]
  | [] => rfl
  | a :: l => by
    simp only [List.map_cons, zip3T]
    rw [zip3_maps f g k l]
theorem yZ_ok (R : allR bs) (few : bs.length ≤ 1000) {h : VH} (V : Iv n h) (at_ : h[q]? = some (.lst (bs.map gdP))) {τ : TS_} (F : Zf n q bs τ) :
    ∃ τ' h', yZ τ h = .nx τ' h' ∧ Iv n h' ∧ h'[q]? = some (.lst (bs.map gdP)) ∧ Zf n q bs τ' := by
  have rd_ : ∀ {h : VH}, h[q]? = some (.lst (bs.map gdP)) → rd3 (.lst (bs.map gdT)) (.ref q) (.lst (bs.map fun b => T.str (gdS b))) bs.length bs.length bs.length h = some (bs.map fun b => T.tup [gdT b, gdP b, .str (gdS b)]) := fun {h} at_ => by
    unfold rd3
    simp only [TL.listOf, at_, List.length_map, and_self, if_true]
    rw [zip3_maps]
  have mi : iZip3M (aCons (eVar 7) (aCons (eVar 1) (aCons (eVar 4) aNil))) τ h = .ok (rd3 (.lst (bs.map gdT)) (.ref q) (.lst (bs.map fun b => T.str (gdS b))) bs.length bs.length bs.length) h := by
    unfold iZip3M
    rw [cons_ok (eV_at F.v7 h) (cons_ok (eV_at F.v1 h) (cons_ok (eV_at F.v4 h) (rfl : aNil τ h = .ok [] h)))]
    simp only [TL.listOf, at_, List.length_map]
  obtain ⟨τ', h', z, V', at2, F'⟩ := sFor_inv (mi := iZip3M (aCons (eVar 7) (aCons (eVar 1) (aCons (eVar 4) aNil)))) (g := mgTup 3 (mgsCons (mgName 9) (mgsCons (mgName 10) (mgsCons (mgName 8) mgsNil)))) (body := zB) (τ := τ) (h := h) (h1 := h) (rd := rd3 (.lst (bs.map gdT)) (.ref q) (.lst (bs.map fun b => T.str (gdS b))) bs.length bs.length bs.length) (ts := bs.map fun b => T.tup [gdT b, gdP b, .str (gdS b)])
    (fun _ τ h => Iv n h ∧ h[q]? = some (.lst (bs.map gdP)) ∧ Zf n q bs τ) mi ⟨V, at_, F⟩ (fun _ _ _ J => rd_ J.2.1) (fun i hi τ h J => by
      obtain ⟨V, at_, F⟩ := J
      rw [List.length_map] at hi
      have ei : (bs.map fun b => T.tup [gdT b, gdP b, .str (gdS b)])[i] = .tup [gdT bs[i], gdP bs[i], .str (gdS bs[i])] := List.getElem_map ..
      rw [ei]
      obtain ⟨a2, a3, a5, a6, a8, a9, a10, a11, a12, a13, a14, a15, a16, a17, a18, rfl⟩ : ∃ a2 a3 a5 a6 a8 a9 a10 a11 a12 a13 a14 a15 a16 a17 a18, τ = [some (.ref n), some (.ref q), a2, a3, some (.lst (bs.map fun b => T.str (gdS b))), a5, a6, some (.lst (bs.map gdT)), a8, a9, a10, a11, a12, a13, a14, a15, a16, a17, a18] := by
        match τ, F.ln, F.v0, F.v1, F.v4, F.v7 with
        | [b0, b1, b2, b3, b4, b5, b6, b7, b8, b9, b10, b11, b12, b13, b14, b15, b16, b17, b18], _, v0, v1, v4, v7 =>
          simp only [List.getElem?_cons_zero, List.getElem?_cons_succ, Option.some.injEq] at v0 v1 v4 v7
          subst v0 v1 v4 v7
          exact ⟨_, _, _, _, _, _, _, _, _, _, _, _, _, _, _, rfl⟩
      obtain ⟨τ', h', z, V', at2, F'⟩ := zB_ok (n := n) (q := q) (bs := bs) (R _ (List.getElem_mem hi)) few V at_ a2 a3 a5 a6 a11 a12 a13 a14 a15 a16 a17 a18
      exact ⟨_, h, τ', h', rfl, .inl z, V', at2, F'⟩)
  exact ⟨τ', h', z, V', at2, F'⟩
theorem right2_ok {h : VH} (V : Iv n h) : ∃ h', K02.m_law_right [.ref n] h = .ok (.bl true) h' ∧ Iv n h' := by
  obtain ⟨bs, q, h1, S123, V1, at1, ne, l10, R⟩ := y123_ok V none none none none none none none none none none none none none none none none none none (rest := sSeq y4 (sSeq y5 (sSeq y6 (sRet (eK (.bl true))))))
  have few : bs.length ≤ 1000 := by omega
  have S4 := y4_ok R few at1 (τ := [some (.ref n), some (.ref q), none, none, none, none, none, none, none, none, none, none, none, none, none, none, none, none, none]) rfl rfl
  obtain ⟨h2, S5, V2, at2⟩ := y5_ok R few ne V1 at1 (τ := [some (.ref n), some (.ref q), none, none, some (.lst (bs.map fun b => T.str (gdS b))), none, none, none, none, none, none, none, none, none, none, none, none, none, none]) rfl rfl rfl
  obtain ⟨τ', h3, S6, V3, at3, F3⟩ := sFor_inv (mi := iRange1 (aCons (eK (.int 2)) aNil)) (g := mgName 2) (body := yZ) (τ := [some (.ref n), some (.ref q), none, none, some (.lst (bs.map fun b => T.str (gdS b))), none, none, some (.lst (bs.map gdT)), none, none, none, none, none, none, none, none, none, none, none]) (h := h2) (h1 := h2) (rd := fun _ => some (rangeT 0 2)) (ts := rangeT 0 2)
    (fun _ τ h => Iv n h ∧ h[q]? = some (.lst (bs.map gdP)) ∧ Zf n q bs τ) (rngk (K := 2) rfl (by omega)) ⟨V2, at2, rfl, rfl, rfl, rfl, rfl⟩ (fun _ _ _ _ => rfl) (fun i hi τ h J => by
      obtain ⟨V, at_, F⟩ := J
      obtain ⟨τ', h', z, V', at2, F'⟩ := yZ_ok R few V at_ (τ := τ.set 2 (some (rangeT 0 2)[i])) ⟨by rw [List.length_set]; exact F.ln, by rw [List.getElem?_set_ne (by omega)]; exact F.v0, by rw [List.getElem?_set_ne (by omega)]; exact F.v1, by rw [List.getElem?_set_ne (by omega)]; exact F.v4, by rw [List.getElem?_set_ne (by omega)]; exact F.v7⟩
      exact ⟨_, h, τ', h', rfl, .inl z, V', at2, F'⟩)
  refine ⟨h3, ?_, V3⟩
  show defM 19 1 K02.s_law_right _ _ = _
  rw [K02right_eq]
  exact defM_rt rfl (S123.trans ((seq_nx S4).trans ((seq_nx S5).trans ((seq_nx S6).trans (ret_ok rfl)))))
end
end BD
theorem K02.pure_law (ns : List Int) (hl : ns.length ≤ 63) : ∃ h', K02.m_law [.arg (ns.map TL.T.int)] [] = .ok (.bl true) h' :=
  BD.cases_ok (m := 4) (by omega) (fun ns s h l hs hf => BD.purse_ok hs hf l) (fun n h I => BD.right2_ok I) ns hl

set_option Elab.async false
set_option linter.all false
set_option maxRecDepth 100000
set_option maxHeartbeats 4000000
namespace K02
open K13
open K06
open PySem PySem.Spec L2 TL
theorem nm_Board___eq__ {K : PySem.W.Frag} : ("__eq__" : Str) ∉ (wd K).fn 0 := (show ("__eq__" : Str) ∉ (["written", "many", "rows"] : List Str) by decide)
theorem nm_Board___repr__ {K : PySem.W.Frag} : ("__repr__" : Str) ∉ (wd K).fn 0 := (show ("__repr__" : Str) ∉ (["written", "many", "rows"] : List Str) by decide)
theorem nm_Board___str__ {K : PySem.W.Frag} : ("__str__" : Str) ∉ (wd K).fn 0 := (show ("__str__" : Str) ∉ (["written", "many", "rows"] : List Str) by decide)
structure Gs (w : World) (K : PySem.W.Frag) (mg : Str → Option Value) : Prop where
  b_abs : mg "abs" = none
  b_all : mg "all" = none
  b_any : mg "any" = none
  b_bool : mg "bool" = none
  b_divmod : mg "divmod" = none
  b_enumerate : mg "enumerate" = none
  b_int : mg "int" = none
  b_isinstance : mg "isinstance" = none
  b_len : mg "len" = none
  b_list : mg "list" = none
  b_max : mg "max" = none
  b_min : mg "min" = none
  b_range : mg "range" = none
  b_repr : mg "repr" = none
  b_set : mg "set" = none
  b_sorted : mg "sorted" = none
  b_str : mg "str" = none
  b_tuple : mg "tuple" = none
  b_zip : mg "zip" = none
  f_law_purse : mg "_law_purse" = some (.ref (He.ga K "_law_purse"))
  F_law_purse : FunD K "_law_purse" "_law_purse" (defArgs (top 21)) (defBody (top 21)) (defScope (top 21)) [] [] (He.ga K "_law_purse") (fdOf K (He.ga K "_law_purse"))
  p_Board_text : PropOf K (He.ga K "Board") "text" (pAd K "Board" "text") (gAd K "Board" "text")
  F_Board_text : FunD K "text" "Board.text" (defArgs (mth 17 1)) (defBody (mth 17 1)) (defScope (mth 17 1)) [] [] (gAd K "Board" "text") (fdOf K (gAd K "Board" "text"))
  F_Board___eq__ : FunD K "__eq__" "Board.__eq__" (defArgs (mth 17 11)) (defBody (mth 17 11)) (defScope (mth 17 11)) [] [] (He.ma K (He.ga K "Board") "__eq__") (fdOf K (He.ma K (He.ga K "Board") "__eq__"))
  f_number_in : mg "number_in" = some (.ref (He.ga K "number_in"))
  F_number_in : FunD K "number_in" "number_in" (defArgs (top 11)) (defBody (top 11)) (defScope (top 11)) [] [] (He.ga K "number_in") (fdOf K (He.ga K "number_in"))
  f_line_in : mg "line_in" = some (.ref (He.ga K "line_in"))
  F_line_in : FunD K "line_in" "line_in" (defArgs (top 13)) (defBody (top 13)) (defScope (top 13)) [] [] (He.ga K "line_in") (fdOf K (He.ga K "line_in"))
  f_lines_in : mg "lines_in" = some (.ref (He.ga K "lines_in"))
  F_lines_in : FunD K "lines_in" "lines_in" (defArgs (top 14)) (defBody (top 14)) (defScope (top 14)) [] [] (He.ga K "lines_in") (fdOf K (He.ga K "lines_in"))
  f_board_in : mg "board_in" = some (.ref (He.ga K "board_in"))
  F_board_in : FunD K "board_in" "board_in" (defArgs (top 15)) (defBody (top 15)) (defScope (top 15)) [] [] (He.ga K "board_in") (fdOf K (He.ga K "board_in"))
  F_Board___init__ : FunD K "__init__" "Board.__init__" (defArgs (mth 17 0)) (defBody (mth 17 0)) (defScope (mth 17 0)) [] [] (He.ma K (He.ga K "Board") "__init__") (fdOf K (He.ma K (He.ga K "Board") "__init__"))
  F_Board___repr__ : FunD K "__repr__" "Board.__repr__" (defArgs (mth 17 10)) (defBody (mth 17 10)) (defScope (mth 17 10)) [] [] (He.ma K (He.ga K "Board") "__repr__") (fdOf K (He.ma K (He.ga K "Board") "__repr__"))
  F_Board___str__ : FunD K "__str__" "Board.__str__" (defArgs (mth 17 9)) (defBody (mth 17 9)) (defScope (mth 17 9)) [] [] (He.ma K (He.ga K "Board") "__str__") (fdOf K (He.ma K (He.ga K "Board") "__str__"))
  f_shared : mg "shared" = some (.ref (He.ga K "shared"))
  F_shared : FunD K "shared" "shared" (defArgs (top 18)) (defBody (top 18)) (defScope (top 18)) [] [] (He.ga K "shared") (fdOf K (He.ga K "shared"))
  p_Board_is_thin : PropOf K (He.ga K "Board") "is_thin" (pAd K "Board" "is_thin") (gAd K "Board" "is_thin")
  F_Board_is_thin : FunD K "is_thin" "Board.is_thin" (defArgs (mth 17 4)) (defBody (mth 17 4)) (defScope (mth 17 4)) [] [] (gAd K "Board" "is_thin") (fdOf K (gAd K "Board" "is_thin"))
  p_Board_lines : PropOf K (He.ga K "Board") "lines" (pAd K "Board" "lines") (gAd K "Board" "lines")
  F_Board_lines : FunD K "lines" "Board.lines" (defArgs (mth 17 3)) (defBody (mth 17 3)) (defScope (mth 17 3)) [] [] (gAd K "Board" "lines") (fdOf K (gAd K "Board" "lines"))
  p_Board_size : PropOf K (He.ga K "Board") "size" (pAd K "Board" "size") (gAd K "Board" "size")
  F_Board_size : FunD K "size" "Board.size" (defArgs (mth 17 2)) (defBody (mth 17 2)) (defScope (mth 17 2)) [] [] (gAd K "Board" "size") (fdOf K (gAd K "Board" "size"))
  f_law_draw : mg "_law_draw" = some (.ref (He.ga K "_law_draw"))
  F_law_draw : FunD K "_law_draw" "_law_draw" (defArgs (top 22)) (defBody (top 22)) (defScope (top 22)) [] [] (He.ga K "_law_draw") (fdOf K (He.ga K "_law_draw"))
  f_law_rows : mg "_law_rows" = some (.ref (He.ga K "_law_rows"))
  F_law_rows : FunD K "_law_rows" "_law_rows" (defArgs (top 23)) (defBody (top 23)) (defScope (top 23)) [] [] (He.ga K "_law_rows") (fdOf K (He.ga K "_law_rows"))
  f_law_board : mg "_law_board" = some (.ref (He.ga K "_law_board"))
  F_law_board : FunD K "_law_board" "_law_board" (defArgs (top 25)) (defBody (top 25)) (defScope (top 25)) [] [] (He.ga K "_law_board") (fdOf K (He.ga K "_law_board"))
  f_law_word_of : mg "_law_word_of" = some (.ref (He.ga K "_law_word_of"))
  F_law_word_of : FunD K "_law_word_of" "_law_word_of" (defArgs (top 24)) (defBody (top 24)) (defScope (top 24)) [] [] (He.ga K "_law_word_of") (fdOf K (He.ga K "_law_word_of"))
  f_law_right : mg "_law_right" = some (.ref (He.ga K "_law_right"))
  F_law_right : FunD K "_law_right" "_law_right" (defArgs (top 26)) (defBody (top 26)) (defScope (top 26)) [] [] (He.ga K "_law_right") (fdOf K (He.ga K "_law_right"))
  f_law : mg "law" = some (.ref (He.ga K "law"))
  F_law : FunD K "law" "law" (defArgs (top 27)) (defBody (top 27)) (defScope (top 27)) [] [] (He.ga K "law") (fdOf K (He.ga K "law"))
  f_Board : mg "Board" = some (.ref (He.ga K "Board"))
  k_Board : CF K (He.ga K "Board")
  m_Board : Mk K (He.ga K "Board") (He.ma K (He.ga K "Board") "__init__")
  ok : WdOk (wd K)
  n_Board_many : NoAttr K (He.ga K "Board") "many"
  n_Board_rows : NoAttr K (He.ga K "Board") "rows"
  n_Board_written : NoAttr K (He.ga K "Board") "written"
  h_Board___eq__ : Meth K (He.ga K "Board") "__eq__" (He.ma K (He.ga K "Board") "__eq__")
  h_Board___repr__ : Meth K (He.ga K "Board") "__repr__" (He.ma K (He.ga K "Board") "__repr__")
  h_Board___str__ : Meth K (He.ga K "Board") "__str__" (He.ma K (He.ga K "Board") "__str__")
  nf_Board : ∀ (x : TyC) (u : Value), x.fit = true → x.v (wd K) u → PySem.W.notFirst K (He.ga K "Board") u = true
  ne_Board : PySem.W.findIn K (.ref (He.ga K "Board")) "__ne__" = some (some (.builtin "object.__ne__"))
  pl_Board : PySem.W.findIn K (.ref (He.ga K "Board")) "__bool__" = some none ∧ PySem.W.findIn K (.ref (He.ga K "Board")) "__len__" = some none
  i_Board : ∀ x u, x.fit = true → x.v (wd K) u → PySem.W.kitOne K u (.ref (He.ga K "Board")) = some (isiB x (.o 0))
  i_str : ∀ x u, x.fit = true → x.v (wd K) u → PySem.W.kitOne K u (.type "str") = some (isiB x (.b "str"))
  c_DIGITS : ∃ t, mg "DIGITS" = some (.str "0123456789" t)
  c_MOST_CELLS : ∃ t, mg "MOST_CELLS" = some (.int 30 t)
  c_MOST_LINES : ∃ t, mg "MOST_LINES" = some (.int 30 t)
section
variable {P : Program} {w : World} {K : PySem.W.Frag} {mg : Str → Option Value} {base : Heap}
theorem sc_law_purse : FnScope ["_law_script", "_law_spot", "_law_cell", "_law_seed", "_law_one"] ["_law_script", "_law_spot"] (defScope (top 21)) := ⟨rfl, rfl, rfl, by decide +kernel, rfl, by decide +kernel, by decide +kernel⟩
theorem b_law_purse (g : Gs w K mg) : Binds K (fdOf K (He.ga K "_law_purse")) ["_law_script", "_law_spot"] [] := g.F_law_purse.bindsN fun _ _ _ _ _ _ us hl => match us, hl with | [_, _], _ => rfl
theorem ok_law_purse (g : Gs w K mg) : FnOk P w K mg base CX0 1 (He.ga K "_law_purse") (fdOf K (He.ga K "_law_purse")) ["_law_script", "_law_spot"] (spM (wd K) m_law_purse) :=
  fnM g.F_law_purse sc_law_purse 5 2 rfl rfl fun cdv A outer s H E hr =>
    (xsCons (xsSet (i := 2) sc_law_purse.nd rfl (.inl rfl) (xIf (xtCmp ot_lt (oLt (room80 hr)) (xVar 1) (xCallB ct_len call_len rfl g.b_len bt_len (xaCons (xVar 0) xaNil))) (xIx rfl (xVar 0) (xVar 1) (fun _ _ => rfl)) (xOp ot_mul oMul xInt (xOp ot_add oAdd (xVar 1) xInt))))
    (xsCons (xsSet (i := 3) sc_law_purse.nd rfl (.inl rfl) (xOp ot_add oAdd xInt (xVar 1)))
    (xsCons (xsFor (fun _ _ z => z.elim) rfl (xiSeq rfl (xOp ot_add oAdd (xSl rfl (xVar 0) xoNo (xoSome xInt)) (xL (xLst (xaCons (xVar 2) xaNil))))) (xgName (i := 4) sc_law_purse.nd rfl (.inl rfl)) (xsOne (xsSet (i := 3) sc_law_purse.nd rfl (.inl rfl) (xOp ot_mod op_mod (xCallTy ct_int oInt rfl g.b_int bt_int (xaCons (xOp ot_add oAdd (xOp ot_add oAdd (xOp ot_mul oMul (xVar 3) xInt) (xOp ot_mod op_mod (xCallTy ct_int oInt rfl g.b_int bt_int (xaCons (xVar 4) xaNil)) xInt)) xInt) xaNil)) xInt))))
    (xsOne (xsRet (xH (xLst (xaCons (xIf (xtCmp ot_ge (oGe (room80 hr)) (xCallB ct_abs call_abs rfl g.b_abs bt_abs (xaCons (xVar 2) xaNil)) (xOp ot_pow op_pow xInt xInt)) (xCallB ct_abs call_abs rfl g.b_abs bt_abs (xaCons (xVar 2) xaNil)) xInt) (xaCons (xVar 3) xaNil)))))))))
theorem sc_Board_text : FnScope ["self"] ["self"] (defScope (mth 17 1)) := ⟨rfl, rfl, rfl, by decide +kernel, rfl, by decide +kernel, by decide +kernel⟩
theorem b_Board_text (g : Gs w K mg) : Binds K (fdOf K (gAd K "Board" "text")) ["self"] [] := g.F_Board_text.bindsN fun _ _ _ _ _ _ us hl => match us, hl with | [_], _ => rfl
theorem ok_Board_text (g : Gs w K mg) : FnOk P w K mg base CX0 1 (gAd K "Board" "text") (fdOf K (gAd K "Board" "text")) ["self"] (spM (wd K) m_Board_text) :=
  fnM g.F_Board_text sc_Board_text 1 1 rfl rfl fun cdv A outer s H E hr =>
    (xsOne (xsRet (xFld (c := 0) (i := 0) rfl rfl rfl fn_nd_Board g.k_Board.cls g.n_Board_written (xVar 0))))
theorem sc_Board___eq__ : FnScope ["self", "other"] ["self", "other"] (defScope (mth 17 11)) := ⟨rfl, rfl, rfl, by decide +kernel, rfl, by decide +kernel, by decide +kernel⟩
theorem b_Board___eq__ (g : Gs w K mg) : Binds K (fdOf K (He.ma K (He.ga K "Board") "__eq__")) ["self", "other"] [] := g.F_Board___eq__.bindsN fun _ _ _ _ _ _ us hl => match us, hl with | [_, _], _ => rfl
theorem ok_Board___eq__ (g : Gs w K mg) : FnOk P w K mg base CX0 3 (He.ma K (He.ga K "Board") "__eq__") (fdOf K (He.ma K (He.ga K "Board") "__eq__")) ["self", "other"] (spM (wd K) m_Board___eq__) :=
  fnM g.F_Board___eq__ sc_Board___eq__ 2 2 rfl rfl fun cdv A outer s H E hr =>
    (xsOne (xsRet (xAnd (xIsi (y := .o 0) rfl g.ok ⟨_, rfl, rfl⟩ (.own _) g.i_Board (xVar 1) (pe_glob rfl g.f_Board rfl) rfl g.b_isinstance) (xOne (xCmp ot_eq (op_eqP (room80 hr)) (xFld (c := 0) (i := 0) rfl rfl rfl fn_nd_Board g.k_Board.cls g.n_Board_written (xVar 0)) (xProp (c := 0) rfl rfl g.k_Board.cls g.p_Board_text (ok_Board_text g) (hr.mono (by decide)) (b_Board_text g) (xVar 1)))))))
theorem sc_number_in : FnScope ["word", "most", "sign"] ["word", "most"] (defScope (top 11)) := ⟨rfl, rfl, rfl, by decide +kernel, rfl, by decide +kernel, by decide +kernel⟩
theorem b_number_in (g : Gs w K mg) : Binds K (fdOf K (He.ga K "number_in")) ["word", "most"] [] := g.F_number_in.bindsN fun _ _ _ _ _ _ us hl => match us, hl with | [_, _], _ => rfl
theorem ok_number_in (g : Gs w K mg) : FnOk P w K mg base CX0 1 (He.ga K "number_in") (fdOf K (He.ga K "number_in")) ["word", "most"] (spM (wd K) m_number_in) :=
  fnM g.F_number_in sc_number_in 3 2 rfl rfl fun cdv A outer s H E hr =>
    (xsCons (xsIf (xtW (xwOr (xtCmp ot_eq (op_eqP (room80 hr)) (xVar 0) xStr) (xwOr (xtNot (xtVal (xCallB ct_all (cr_all rfl) rfl g.b_all bt_all (xaCons (xL (xLc (own := [("sign", 2)]) rfl sc_number_in.nd (xiSeq rfl (xVar 0)) (blk_of rfl rfl) (fun _ _ _ _ _ => (wgName (i := 2) (by decide) sc_number_in.nd rfl (.inl rfl))) (fun _ _ _ _ _ => xtsNil) (fun _ _ _ _ _ => (xCmp ot_inT (oIn (room80 hr)) (xVar 2) (xGStr rfl g.c_DIGITS))))) xaNil)))) (xwOr1 (xtW (xwAnd (xtCmp ot_gt (oGt (room80 hr)) (xCallB ct_len call_len rfl g.b_len bt_len (xaCons (xVar 0) xaNil)) xInt) (xwAnd1 (xtCmp ot_eq (op_eqP (room80 hr)) (xIx rfl (xVar 0) xInt (fun _ _ => rfl)) xStr)))))))) (xsOne (xsRet xNon)) xsNil)
    (xsOne (xsRet (xIf (xtW (xwAnd (xtCmp ot_lt (oLt (room80 hr)) (xCallB ct_len call_len rfl g.b_len bt_len (xaCons (xVar 0) xaNil)) xInt) (xwAnd1 (xtCmp ot_le (oLe (room80 hr)) (xCallTy ct_int oInt rfl g.b_int bt_int (xaCons (xVar 0) xaNil)) (xVar 1))))) (xCallTy ct_int oInt rfl g.b_int bt_int (xaCons (xVar 0) xaNil)) xNon))))
theorem sc_line_in : FnScope ["words", "size", "found", "word", "one", "later"] ["words", "size"] (defScope (top 13)) := ⟨rfl, rfl, rfl, by decide +kernel, rfl, by decide +kernel, by decide +kernel⟩
theorem b_line_in (g : Gs w K mg) : Binds K (fdOf K (He.ga K "line_in")) ["words", "size"] [] := g.F_line_in.bindsN fun _ _ _ _ _ _ us hl => match us, hl with | [_, _], _ => rfl
theorem ok_line_in (g : Gs w K mg) : FnOk P w K mg base CX0 2 (He.ga K "line_in") (fdOf K (He.ga K "line_in")) ["words", "size"] (spM (wd K) m_line_in) :=
  fnM g.F_line_in sc_line_in 6 2 rfl rfl fun cdv A outer s H E hr =>
    (xsCons (xsSetLcL (i := 2) (own := [("word", 3)]) rfl sc_line_in.nd rfl rfl rfl (xiSeq rfl (xMt mt_split' rfl F.plainAttrs_str F.slot_str_split F.type_str_split mt_split (xVar 0) (xaCons xStr xaNil))) (blk_of rfl rfl) (fun _ _ _ _ _ => (wgName (i := 3) (by decide) sc_line_in.nd rfl (.inl rfl))) (fun _ _ _ _ _ => xtsNil) (fun _ _ _ _ _ => (xCall (ok_number_in g) (hr.mono (by decide)) rfl g.f_number_in g.F_number_in.kp (b_number_in g) (xaCons (xVar 3) (xaCons (xOp ot_sub op_sub (xVar 1) xInt) xaNil)))))
    (xsCons (xsIf (xtW (xwOr (xtCmp ot_inT (oIn (room80 hr)) xNon (xVar 2)) (xwOr1 (xtVal (xCallB ct_any (cr_any rfl) rfl g.b_any bt_any (xaCons (xL (xLc (own := [("one", 4), ("later", 5)]) rfl sc_line_in.nd (xiZip rfl rfl g.b_zip (xaCons (xVar 2) (xaCons (xSl rfl (xVar 2) (xoSome xInt) xoNo) xaNil))) (blk_of rfl rfl) (fun _ _ _ _ _ => (wgTup (n := 2) rfl rfl (wgsCons (wgName (i := 4) (by decide) sc_line_in.nd rfl (.inl rfl)) (wgsCons (wgName (i := 5) (by decide) sc_line_in.nd rfl (.inl rfl)) wgsNil)))) (fun _ _ _ _ _ => xtsNil) (fun _ _ _ _ _ => (xCmp ot_ge (oGe (room80 hr)) (xVar 4) (xVar 5))))) xaNil)))))) (xsOne (xsRet xNon)) xsNil)
    (xsOne (xsRet (xCallTy ct_tuple call_tuple_of rfl g.b_tuple bt_tuple (xaCons (xVar 2) xaNil))))))
theorem sc_lines_in : FnScope ["text", "size", "found", "words", "one", "later"] ["text", "size"] (defScope (top 14)) := ⟨rfl, rfl, rfl, by decide +kernel, rfl, by decide +kernel, by decide +kernel⟩
theorem b_lines_in (g : Gs w K mg) : Binds K (fdOf K (He.ga K "lines_in")) ["text", "size"] [] := g.F_lines_in.bindsN fun _ _ _ _ _ _ us hl => match us, hl with | [_, _], _ => rfl
theorem ok_lines_in (g : Gs w K mg) : FnOk P w K mg base CX0 3 (He.ga K "lines_in") (fdOf K (He.ga K "lines_in")) ["text", "size"] (spM (wd K) m_lines_in) :=
  fnM g.F_lines_in sc_lines_in 6 2 rfl rfl fun cdv A outer s H E hr =>
    (xsCons (xsIf (xtCmp ot_eq (op_eqP (room80 hr)) (xVar 0) xStr) (xsOne (xsRet (xL (xLst xaNil)))) xsNil)
    (xsCons (xsIf (xtCmp ot_ne (op_neP (room80 hr)) (xIx rfl (xVar 0) xInt (fun _ _ => rfl)) xStr) (xsOne (xsRet xNon)) xsNil)
    (xsCons (xsSetLcL (i := 2) (own := [("words", 3)]) rfl sc_lines_in.nd rfl rfl rfl (xiSeq rfl (xMt mt_split' rfl F.plainAttrs_str F.slot_str_split F.type_str_split mt_split (xSl rfl (xVar 0) (xoSome xInt) xoNo) (xaCons xStr xaNil))) (blk_of rfl rfl) (fun _ _ _ _ _ => (wgName (i := 3) (by decide) sc_lines_in.nd rfl (.inl rfl))) (fun _ _ _ _ _ => xtsNil) (fun _ _ _ _ _ => (xCall (ok_line_in g) (hr.mono (by decide)) rfl g.f_line_in g.F_line_in.kp (b_line_in g) (xaCons (xVar 3) (xaCons (xVar 1) xaNil)))))
    (xsCons (xsIf (xtW (xwOr (xtCmp ot_inT (oIn (room80 hr)) xNon (xVar 2)) (xwOr1 (xtCmp ot_gt (oGt (room80 hr)) (xCallB ct_len call_len rfl g.b_len bt_len (xaCons (xVar 2) xaNil)) (xGInt rfl g.c_MOST_LINES))))) (xsOne (xsRet xNon)) xsNil)
    (xsOne (xsRet (xIf (xtVal (xCallB ct_any (cr_any rfl) rfl g.b_any bt_any (xaCons (xL (xLc (own := [("one", 4), ("later", 5)]) rfl sc_lines_in.nd (xiZip rfl rfl g.b_zip (xaCons (xVar 2) (xaCons (xSl rfl (xVar 2) (xoSome xInt) xoNo) xaNil))) (blk_of rfl rfl) (fun _ _ _ _ _ => (wgTup (n := 2) rfl rfl (wgsCons (wgName (i := 4) (by decide) sc_lines_in.nd rfl (.inl rfl)) (wgsCons (wgName (i := 5) (by decide) sc_lines_in.nd rfl (.inl rfl)) wgsNil)))) (fun _ _ _ _ _ => xtsNil) (fun _ _ _ _ _ => (xCmp ot_ge (oGe (room80 hr)) (xVar 4) (xVar 5))))) xaNil))) xNon (xVar 2))))))))
theorem sc_board_in : FnScope ["text", "head", "rest", "size", "lines"] ["text"] (defScope (top 15)) := ⟨rfl, rfl, rfl, by decide +kernel, rfl, by decide +kernel, by decide +kernel⟩
theorem b_board_in (g : Gs w K mg) : Binds K (fdOf K (He.ga K "board_in")) ["text"] [] := g.F_board_in.bindsN fun _ _ _ _ _ _ us hl => match us, hl with | [_], _ => rfl
theorem ok_board_in (g : Gs w K mg) : FnOk P w K mg base CX0 4 (He.ga K "board_in") (fdOf K (He.ga K "board_in")) ["text"] (spM (wd K) m_board_in) :=
  fnM g.F_board_in sc_board_in 5 1 rfl rfl fun cdv A outer s H E hr =>
    (xsCons (xsIf (xtW (xwOr (xtNot (xtVal (xIsi (y := .b "str") rfl g.ok rfl (.ty _) g.i_str (xVar 0) (pe_bltn rfl g.b_str bt_str rfl) rfl g.b_isinstance))) (xwOr1 (xtCmp ot_ne (op_neP (room80 hr)) (xMt mt_count' rfl F.plainAttrs_str F.slot_str_count F.type_str_count mt_count (xVar 0) (xaCons xStr xaNil)) xInt)))) (xsOne (xsRet xNon)) xsNil)
    (xsCons (xsAsg (xMt mt_split' rfl F.plainAttrs_str F.slot_str_split F.type_str_split mt_split (xVar 0) (xaCons xStr xaNil)) (xgLst (n := 2) rfl rfl (xgsCons (xgName (i := 1) sc_board_in.nd rfl (.inl rfl)) (xgsCons (xgName (i := 2) sc_board_in.nd rfl (.inl rfl)) xgsNil))))
    (xsCons (xsSet (i := 3) sc_board_in.nd rfl (.inl rfl) (xCall (ok_number_in g) (hr.mono (by decide)) rfl g.f_number_in g.F_number_in.kp (b_number_in g) (xaCons (xVar 1) (xaCons (xGInt rfl g.c_MOST_CELLS) xaNil))))
    (xsCons (xsSet (i := 4) sc_board_in.nd rfl (.inl rfl) (xIf (xtW (xwAnd (xtCmp ot_isn op_notN (xVar 3) xNon) (xwAnd1 (xtCmp ot_gt (oGt (room80 hr)) (xVar 3) xInt)))) (xCall (ok_lines_in g) (hr.mono (by decide)) rfl g.f_lines_in g.F_lines_in.kp (b_lines_in g) (xaCons (xVar 2) (xaCons (xVar 3) xaNil))) xNon))
    (xsOne (xsRet (xIf (xtCmp ot_is op_isN (xVar 4) xNon) xNon (xTup (xaCons (xVar 3) (xaCons (xVar 4) xaNil))))))))))
theorem sc_Board___init__ : FnScope ["self", "text", "found"] ["self", "text"] (defScope (mth 17 0)) := ⟨rfl, rfl, rfl, by decide +kernel, rfl, by decide +kernel, by decide +kernel⟩
theorem b_Board___init__ (g : Gs w K mg) : Binds K (fdOf K (He.ma K (He.ga K "Board") "__init__")) ["self", "text"] [] := g.F_Board___init__.bindsN fun _ _ _ _ _ _ us hl => match us, hl with | [_, _], _ => rfl
theorem kb_Board___init___text (g : Gs w K mg) : KwB K (fdOf K (He.ma K (He.ga K "Board") "__init__")) ["self", "text"] ["text"] 1 [0] := kwB g.F_Board___init__ fun _ _ _ _ _ _ us ws h1 h2 => match us, ws, h1, h2 with | [_], [_], _, _ => rfl
theorem ok_Board___init__ (g : Gs w K mg) : FnOk P w K mg base CX0 5 (He.ma K (He.ga K "Board") "__init__") (fdOf K (He.ma K (He.ga K "Board") "__init__")) ["self", "text"] (spM (wd K) m_Board___init__) :=
  fnM g.F_Board___init__ sc_Board___init__ 3 2 rfl rfl fun cdv A outer s H E hr =>
    (xsCons (xsSet (i := 2) sc_Board___init__.nd rfl (.inl rfl) (xCall (ok_board_in g) (hr.mono (by decide)) rfl g.f_board_in g.F_board_in.kp (b_board_in g) (xaCons (xVar 1) xaNil)))
    (xsCons (xsIf (xtCmp ot_is op_isN (xVar 2) xNon) (xsOne xsBad) xsNil)
    (xsCons (xsAsg (xVar 1) (xgFld (c := 0) (i := 0) rfl rfl rfl fn_nd_Board fn_lt_Board g.k_Board.cls g.n_Board_written (xVar 0)))
    (xsOne (xsAsg (xVar 2) (xgTup (n := 2) rfl rfl (xgsCons (xgFld (c := 0) (i := 1) rfl rfl rfl fn_nd_Board fn_lt_Board g.k_Board.cls g.n_Board_many (xVar 0)) (xgsCons (xgFld (c := 0) (i := 2) rfl rfl rfl fn_nd_Board fn_lt_Board g.k_Board.cls g.n_Board_rows (xVar 0)) xgsNil))))))))
theorem sc_Board___repr__ : FnScope ["self"] ["self"] (defScope (mth 17 10)) := ⟨rfl, rfl, rfl, by decide +kernel, rfl, by decide +kernel, by decide +kernel⟩
theorem b_Board___repr__ (g : Gs w K mg) : Binds K (fdOf K (He.ma K (He.ga K "Board") "__repr__")) ["self"] [] := g.F_Board___repr__.bindsN fun _ _ _ _ _ _ us hl => match us, hl with | [_], _ => rfl
theorem ok_Board___repr__ (g : Gs w K mg) : FnOk P w K mg base CX0 1 (He.ma K (He.ga K "Board") "__repr__") (fdOf K (He.ma K (He.ga K "Board") "__repr__")) ["self"] (spM (wd K) m_Board___repr__) :=
  fnM g.F_Board___repr__ sc_Board___repr__ 1 1 rfl rfl fun cdv A outer s H E hr =>
    (xsOne (xsRet (xJoin (.cons xStr (.cons (xFmt (xFld (c := 0) (i := 1) rfl rfl rfl fn_nd_Board g.k_Board.cls g.n_Board_many (xVar 0))) (.cons xStr .nil))))))
theorem sc_Board___str__ : FnScope ["self"] ["self"] (defScope (mth 17 9)) := ⟨rfl, rfl, rfl, by decide +kernel, rfl, by decide +kernel, by decide +kernel⟩
theorem b_Board___str__ (g : Gs w K mg) : Binds K (fdOf K (He.ma K (He.ga K "Board") "__str__")) ["self"] [] := g.F_Board___str__.bindsN fun _ _ _ _ _ _ us hl => match us, hl with | [_], _ => rfl
theorem ok_Board___str__ (g : Gs w K mg) : FnOk P w K mg base CX0 1 (He.ma K (He.ga K "Board") "__str__") (fdOf K (He.ma K (He.ga K "Board") "__str__")) ["self"] (spM (wd K) m_Board___str__) :=
  fnM g.F_Board___str__ sc_Board___str__ 1 1 rfl rfl fun cdv A outer s H E hr =>
    (xsOne (xsRet (xCallTy ct_strS SkE.call_str_str rfl g.b_str bt_str (xaCons (xFld (c := 0) (i := 0) rfl rfl rfl fn_nd_Board g.k_Board.cls g.n_Board_written (xVar 0)) xaNil))))
theorem sc_shared : FnScope ["one", "other", "cell"] ["one", "other"] (defScope (top 18)) := ⟨rfl, rfl, rfl, by decide +kernel, rfl, by decide +kernel, by decide +kernel⟩
theorem b_shared (g : Gs w K mg) : Binds K (fdOf K (He.ga K "shared")) ["one", "other"] [] := g.F_shared.bindsN fun _ _ _ _ _ _ us hl => match us, hl with | [_, _], _ => rfl
theorem ok_shared (g : Gs w K mg) : FnOk P w K mg base CX0 1 (He.ga K "shared") (fdOf K (He.ga K "shared")) ["one", "other"] (spM (wd K) m_shared) :=
  fnM g.F_shared sc_shared 3 2 rfl rfl fun cdv A outer s H E hr =>
    (xsOne (xsRet (xL (xLc (own := [("cell", 2)]) rfl sc_shared.nd (xiSeq rfl (xVar 0)) (blk_of rfl rfl) (fun _ _ _ _ _ => (wgName (i := 2) (by decide) sc_shared.nd rfl (.inl rfl))) (fun _ _ _ _ _ => (xtsOne (xtCmp ot_inT (oIn (room80 hr)) (xVar 2) (xVar 1)))) (fun _ _ _ _ _ => (xVar 2))))))
theorem sc_Board_is_thin : FnScope ["self", "k", "one", "other"] ["self"] (defScope (mth 17 4)) := ⟨rfl, rfl, rfl, by decide +kernel, rfl, by decide +kernel, by decide +kernel⟩
theorem b_Board_is_thin (g : Gs w K mg) : Binds K (fdOf K (gAd K "Board" "is_thin")) ["self"] [] := g.F_Board_is_thin.bindsN fun _ _ _ _ _ _ us hl => match us, hl with | [_], _ => rfl
theorem ok_Board_is_thin (g : Gs w K mg) : FnOk P w K mg base CX0 2 (gAd K "Board" "is_thin") (fdOf K (gAd K "Board" "is_thin")) ["self"] (spM (wd K) m_Board_is_thin) :=
  fnM g.F_Board_is_thin sc_Board_is_thin 4 1 rfl rfl fun cdv A outer s H E hr =>
    (xsOne (xsRet (xNot (xCallB ct_any (cr_any rfl) rfl g.b_any bt_any (xaCons (xL (xLc2 (own := [("k", 1), ("one", 2), ("other", 3)]) (us := [3]) rfl sc_Board_is_thin.nd (xiEnum rfl rfl g.b_enumerate (xaCons (xFld (c := 0) (i := 2) rfl rfl rfl fn_nd_Board g.k_Board.cls g.n_Board_rows (xVar 0)) xaNil)) (blk_of rfl rfl) (by decide) (fun _ _ _ _ _ => (wgTup (n := 2) rfl rfl (wgsCons (wgName (i := 1) (by decide) sc_Board_is_thin.nd rfl (.inl rfl)) (wgsCons (wgName (i := 2) (by decide) sc_Board_is_thin.nd rfl (.inl rfl)) wgsNil)))) (fun _ _ _ _ _ => xtsNil) (fun _ _ _ _ _ => (xiSeqb rfl (xSl rfl (xFld (c := 0) (i := 2) rfl rfl rfl fn_nd_Board g.k_Board.cls g.n_Board_rows (xVar 0)) xoNo (xoSome (xVar 1))))) (fun _ _ _ _ _ => (wgName (i := 3) (by decide) sc_Board_is_thin.nd rfl (.inl rfl))) (fun _ _ _ _ _ => xtsNil) (fun _ _ _ _ _ => (xCmp ot_gt (oGt (room80 hr)) (xCallB ct_len call_len rfl g.b_len bt_len (xaCons (xCall (ok_shared g) (hr.mono (by decide)) rfl g.f_shared g.F_shared.kp (b_shared g) (xaCons (xVar 2) (xaCons (xVar 3) xaNil))) xaNil)) xInt)))) xaNil)))))
theorem sc_Board_lines : FnScope ["self"] ["self"] (defScope (mth 17 3)) := ⟨rfl, rfl, rfl, by decide +kernel, rfl, by decide +kernel, by decide +kernel⟩
theorem b_Board_lines (g : Gs w K mg) : Binds K (fdOf K (gAd K "Board" "lines")) ["self"] [] := g.F_Board_lines.bindsN fun _ _ _ _ _ _ us hl => match us, hl with | [_], _ => rfl
theorem ok_Board_lines (g : Gs w K mg) : FnOk P w K mg base CX0 1 (gAd K "Board" "lines") (fdOf K (gAd K "Board" "lines")) ["self"] (spM (wd K) m_Board_lines) :=
  fnM g.F_Board_lines sc_Board_lines 1 1 rfl rfl fun cdv A outer s H E hr =>
    (xsOne (xsRet (xCallTy ct_tuple call_tuple_of rfl g.b_tuple bt_tuple (xaCons (xFld (c := 0) (i := 2) rfl rfl rfl fn_nd_Board g.k_Board.cls g.n_Board_rows (xVar 0)) xaNil))))
theorem sc_Board_size : FnScope ["self"] ["self"] (defScope (mth 17 2)) := ⟨rfl, rfl, rfl, by decide +kernel, rfl, by decide +kernel, by decide +kernel⟩
theorem b_Board_size (g : Gs w K mg) : Binds K (fdOf K (gAd K "Board" "size")) ["self"] [] := g.F_Board_size.bindsN fun _ _ _ _ _ _ us hl => match us, hl with | [_], _ => rfl
theorem ok_Board_size (g : Gs w K mg) : FnOk P w K mg base CX0 1 (gAd K "Board" "size") (fdOf K (gAd K "Board" "size")) ["self"] (spM (wd K) m_Board_size) :=
  fnM g.F_Board_size sc_Board_size 1 1 rfl rfl fun cdv A outer s H E hr =>
    (xsOne (xsRet (xFld (c := 0) (i := 1) rfl rfl rfl fn_nd_Board g.k_Board.cls g.n_Board_many (xVar 0))))
theorem sc_law_draw : FnScope ["_law_purse_here", "_law_many", "_law_digit"] ["_law_purse_here", "_law_many"] (defScope (top 22)) := ⟨rfl, rfl, rfl, by decide +kernel, rfl, by decide +kernel, by decide +kernel⟩
theorem b_law_draw (g : Gs w K mg) : Binds K (fdOf K (He.ga K "_law_draw")) ["_law_purse_here", "_law_many"] [] := g.F_law_draw.bindsN fun _ _ _ _ _ _ us hl => match us, hl with | [_, _], _ => rfl
theorem ok_law_draw (g : Gs w K mg) : FnOk P w K mg base CX0 1 (He.ga K "_law_draw") (fdOf K (He.ga K "_law_draw")) ["_law_purse_here", "_law_many"] (spM (wd K) m_law_draw) :=
  fnM g.F_law_draw sc_law_draw 3 2 rfl rfl fun cdv A outer s H E hr =>
    (xsCons (xsIf (xtCmp ot_gt (oGt (room80 hr)) (xIx rfl (xVar 0) xInt (fun _ _ => rfl)) xInt) (xsCons (xsAsg (xCallB ct_divmod call_divmodW rfl g.b_divmod bt_divmod (xaCons (xIx rfl (xVar 0) xInt (fun _ _ => rfl)) (xaCons (xVar 1) xaNil))) (xgTup (n := 2) rfl rfl (xgsCons (xgSub st_setL (xVar 0) xInt set_list) (xgsCons (xgName (i := 2) sc_law_draw.nd rfl (.inl rfl)) xgsNil))))
    (xsOne (xsRet (xVar 2)))) xsNil)
    (xsCons (xsAsg (xOp ot_mod op_mod (xCallTy ct_int oInt rfl g.b_int bt_int (xaCons (xOp ot_add oAdd (xOp ot_mul oMul (xIx rfl (xVar 0) xInt (fun _ _ => rfl)) xInt) xInt) xaNil)) xInt) (xgSub st_setL (xVar 0) xInt set_list))
    (xsOne (xsRet (xOp ot_mod op_mod (xCallTy ct_int oInt rfl g.b_int bt_int (xaCons (xOp ot_fdv op_fdiv (xIx rfl (xVar 0) xInt (fun _ _ => rfl)) xInt) xaNil)) (xVar 1))))))
theorem sc_law_rows : FnScope ["_law_purse_here", "_law_size", "_law_most", "_law_widest", "_law_found", "_law_turn", "_law_many", "_law_left", "_law_row_here", "_law_k"] ["_law_purse_here", "_law_size", "_law_most", "_law_widest"] (defScope (top 23)) := ⟨rfl, rfl, rfl, by decide +kernel, rfl, by decide +kernel, by decide +kernel⟩
theorem b_law_rows (g : Gs w K mg) : Binds K (fdOf K (He.ga K "_law_rows")) ["_law_purse_here", "_law_size", "_law_most", "_law_widest"] [] := g.F_law_rows.bindsN fun _ _ _ _ _ _ us hl => match us, hl with | [_, _, _, _], _ => rfl
theorem ok_law_rows (g : Gs w K mg) : FnOk P w K mg base CX0 2 (He.ga K "_law_rows") (fdOf K (He.ga K "_law_rows")) ["_law_purse_here", "_law_size", "_law_most", "_law_widest"] (spM (wd K) m_law_rows) :=
  fnM g.F_law_rows sc_law_rows 10 4 rfl rfl fun cdv A outer s H E hr =>
    (xsCons (xsSet (i := 4) sc_law_rows.nd rfl (.inl rfl) (xH (xLst xaNil)))
    (xsCons (xsFor (fun _ _ z => z.elim) rfl (xiRange1 rfl g.b_range (xaCons (xCall (ok_law_draw g) (hr.mono (by decide)) rfl g.f_law_draw g.F_law_draw.kp (b_law_draw g) (xaCons (xVar 0) (xaCons (xOp ot_add oAdd (xVar 2) xInt) xaNil))) xaNil)) (xgName (i := 5) sc_law_rows.nd rfl (.inl rfl)) (xsCons (xsAsg (xTup (xaCons (xOp ot_add oAdd xInt (xCall (ok_law_draw g) (hr.mono (by decide)) rfl g.f_law_draw g.F_law_draw.kp (b_law_draw g) (xaCons (xVar 0) (xaCons (xCallB ct_min2 (call_min2 rfl) rfl g.b_min bt_min (xaCons (xVar 3) (xaCons (xVar 1) xaNil))) xaNil)))) (xaCons (xH (xListRg1 rfl rfl g.b_list rfl g.b_range (xVar 1))) xaNil))) (xgTup (n := 2) rfl rfl (xgsCons (xgName (i := 6) sc_law_rows.nd rfl (.inl rfl)) (xgsCons (xgName (i := 7) sc_law_rows.nd rfl (.inr rfl)) xgsNil))))
    (xsCons (xsIf (xtW (xwAnd (xtCmp ot_eq (op_eqP (room80 hr)) (xVar 6) xInt) (xwAnd1 (xtCmp ot_gt (oGt (room80 hr)) (xCall (ok_law_draw g) (hr.mono (by decide)) rfl g.f_law_draw g.F_law_draw.kp (b_law_draw g) (xaCons (xVar 0) (xaCons xInt xaNil))) xInt)))) (xsOne (xsSet (i := 6) sc_law_rows.nd rfl (.inl rfl) (xCallB ct_min2 (call_min2 rfl) rfl g.b_min bt_min (xaCons xInt (xaCons (xVar 1) xaNil))))) xsNil)
    (xsCons (xsSet (i := 8) sc_law_rows.nd rfl (.inl rfl) (xCallTy ct_tuple call_tuple_of rfl g.b_tuple bt_tuple (xaCons (xL (xSorted rfl hr rfl g.b_sorted (xaCons (xL (xLc (own := [("_law_k", 9)]) rfl sc_law_rows.nd (xiRange1 rfl g.b_range (xaCons (xVar 6) xaNil)) (blk_of rfl rfl) (fun _ _ _ _ _ => (wgName (i := 9) (by decide) sc_law_rows.nd rfl (.inl rfl))) (fun _ _ _ _ _ => xtsNil) (fun _ _ _ _ _ => (xMt mt_popAt' rfl F.plainAttrs_list F.slot_list_pop F.type_list_pop mt_popAt (xVar 7) (xaCons (xCall (ok_law_draw g) (hr.mono (by decide)) rfl g.f_law_draw g.F_law_draw.kp (b_law_draw g) (xaCons (xVar 0) (xaCons (xCallB ct_len call_len rfl g.b_len bt_len (xaCons (xVar 7) xaNil)) xaNil))) xaNil))))) xaNil))) xaNil)))
    (xsOne (xsIf (xtCmp ot_ninT (oNin (room80 hr)) (xVar 8) (xVar 4)) (xsOne (xsExpr (xMt mt_append' rfl F.plainAttrs_list F.slot_list_append F.type_list_append mt_append (xVar 4) (xaCons (xVar 8) xaNil)))) xsNil))))))
    (xsOne (xsRet (xL (xSorted rfl hr rfl g.b_sorted (xaCons (xVar 4) xaNil)))))))
theorem sc_law_board : FnScope ["_law_purse_here", "_law_way_here", "_law_size", "_law_side", "_law_found", "_law_k", "_law_j", "_law_span"] ["_law_purse_here"] (defScope (top 25)) := ⟨rfl, rfl, rfl, by decide +kernel, rfl, by decide +kernel, by decide +kernel⟩
theorem b_law_board (g : Gs w K mg) : Binds K (fdOf K (He.ga K "_law_board")) ["_law_purse_here"] [] := g.F_law_board.bindsN fun _ _ _ _ _ _ us hl => match us, hl with | [_], _ => rfl
theorem ok_law_board (g : Gs w K mg) : FnOk P w K mg base CX0 3 (He.ga K "_law_board") (fdOf K (He.ga K "_law_board")) ["_law_purse_here"] (spM (wd K) m_law_board) :=
  fnM g.F_law_board sc_law_board 8 1 rfl rfl fun cdv A outer s H E hr =>
    (xsCons (xsPar (i := 1) (j := 2) rfl sc_law_board.nd rfl rfl (by decide) rfl rfl (xaCons (xCall (ok_law_draw g) (hr.mono (by decide)) rfl g.f_law_draw g.F_law_draw.kp (b_law_draw g) (xaCons (xVar 0) (xaCons xInt xaNil))) (xaCons (xOp ot_add oAdd xInt (xCall (ok_law_draw g) (hr.mono (by decide)) rfl g.f_law_draw g.F_law_draw.kp (b_law_draw g) (xaCons (xVar 0) (xaCons xInt xaNil)))) xaNil)) rfl)
    (xsCons (xsIf (xtCmp ot_eq (op_eqP (room80 hr)) (xVar 1) xInt) (xsCons (xsSet (i := 3) sc_law_board.nd rfl (.inr rfl) (xOp ot_add oAdd xInt (xCall (ok_law_draw g) (hr.mono (by decide)) rfl g.f_law_draw g.F_law_draw.kp (b_law_draw g) (xaCons (xVar 0) (xaCons xInt xaNil)))))
    (xsCons (xsSetLcL (i := 4) (own := [("_law_k", 5)]) rfl sc_law_board.nd rfl rfl rfl (xiRange1 rfl g.b_range (xaCons (xVar 3) xaNil)) (blk_of rfl rfl) (fun _ _ _ _ _ => (wgName (i := 5) (by decide) sc_law_board.nd rfl (.inr rfl))) (fun _ _ _ _ _ => xtsNil) (fun _ _ _ _ _ => (xCallTy ct_tuple call_tuple_of rfl g.b_tuple bt_tuple (xaCons (xL (xLc (own := [("_law_j", 6)]) rfl sc_law_board.nd (xiRange1 rfl g.b_range (xaCons (xVar 3) xaNil)) (blk_of rfl rfl) (fun _ _ _ _ _ => (wgName (i := 6) (by decide) sc_law_board.nd rfl (.inl rfl))) (fun _ _ _ _ _ => xtsNil) (fun _ _ _ _ _ => (xOp ot_add oAdd (xOp ot_mul oMul (xVar 3) (xVar 5)) (xVar 6))))) xaNil))))
    (xsCons (xsSet (i := 4) sc_law_board.nd rfl (.inl rfl) (xOp ot_add oAdd (xVar 4) (xL (xLc (own := [("_law_k", 5)]) rfl sc_law_board.nd (xiRange1 rfl g.b_range (xaCons (xVar 3) xaNil)) (blk_of rfl rfl) (fun _ _ _ _ _ => (wgName (i := 5) (by decide) sc_law_board.nd rfl (.inr rfl))) (fun _ _ _ _ _ => xtsNil) (fun _ _ _ _ _ => (xCallTy ct_tuple call_tuple_of rfl g.b_tuple bt_tuple (xaCons (xL (xLc (own := [("_law_j", 6)]) rfl sc_law_board.nd (xiRange1 rfl g.b_range (xaCons (xVar 3) xaNil)) (blk_of rfl rfl) (fun _ _ _ _ _ => (wgName (i := 6) (by decide) sc_law_board.nd rfl (.inl rfl))) (fun _ _ _ _ _ => xtsNil) (fun _ _ _ _ _ => (xOp ot_add oAdd (xOp ot_mul oMul (xVar 3) (xVar 6)) (xVar 5))))) xaNil)))))))
    (xsCons (xsSet (i := 4) sc_law_board.nd rfl (.inl rfl) (xOp ot_add oAdd (xVar 4) (xL (xLst (xaCons (xCallTy ct_tuple call_tuple_of rfl g.b_tuple bt_tuple (xaCons (xL (xLc (own := [("_law_j", 6)]) rfl sc_law_board.nd (xiRange1 rfl g.b_range (xaCons (xVar 3) xaNil)) (blk_of rfl rfl) (fun _ _ _ _ _ => (wgName (i := 6) (by decide) sc_law_board.nd rfl (.inl rfl))) (fun _ _ _ _ _ => xtsNil) (fun _ _ _ _ _ => (xOp ot_add oAdd (xOp ot_mul oMul (xVar 3) (xVar 6)) (xVar 6))))) xaNil)) xaNil)))))
    (xsOne (xsRet (xTup (xaCons (xOp ot_mul oMul (xVar 3) (xVar 3)) (xaCons (xL (xSortSet rfl rfl hr rfl g.b_sorted rfl g.b_set (xSl rfl (xVar 4) xoNo (xoSome (xOp ot_sub op_sub (xCallB ct_len call_len rfl g.b_len bt_len (xaCons (xVar 4) xaNil)) (xCall (ok_law_draw g) (hr.mono (by decide)) rfl g.f_law_draw g.F_law_draw.kp (b_law_draw g) (xaCons (xVar 0) (xaCons xInt xaNil)))))))) xaNil))))))))) xsNil)
    (xsCons (xsIf (xtCmp ot_eq (op_eqP (room80 hr)) (xVar 1) xInt) (xsCons (xsSet (i := 7) sc_law_board.nd rfl (.inr rfl) (xOp ot_add oAdd xInt (xCall (ok_law_draw g) (hr.mono (by decide)) rfl g.f_law_draw g.F_law_draw.kp (b_law_draw g) (xaCons (xVar 0) (xaCons xInt xaNil)))))
    (xsOne (xsRet (xTup (xaCons (xVar 2) (xaCons (xL (xLc (own := [("_law_k", 5)]) rfl sc_law_board.nd (xiRange1 rfl g.b_range (xaCons (xOp ot_add oAdd (xOp ot_sub op_sub (xVar 2) (xVar 7)) xInt) xaNil)) (blk_of rfl rfl) (fun _ _ _ _ _ => (wgName (i := 5) (by decide) sc_law_board.nd rfl (.inl rfl))) (fun _ _ _ _ _ => xtsNil) (fun _ _ _ _ _ => (xCallTy ct_tuple call_tuple_of rfl g.b_tuple bt_tuple (xaCons (xL (xListRg2 rfl rfl g.b_list rfl g.b_range (xVar 5) (xOp ot_add oAdd (xVar 5) (xVar 7)))) xaNil))))) xaNil)))))) xsNil)
    (xsOne (xsRet (xTup (xaCons (xVar 2) (xaCons (xCall (ok_law_rows g) (hr.mono (by decide)) rfl g.f_law_rows g.F_law_rows.kp (b_law_rows g) (xaCons (xVar 0) (xaCons (xVar 2) (xaCons xInt (xaCons (xIf (xtCmp ot_lt (oLt (room80 hr)) (xVar 1) xInt) xInt xInt) xaNil))))) xaNil))))))))
theorem sc_law_word_of : FnScope ["_law_size", "_law_rows_here", "_law_words", "_law_row_here", "_law_k"] ["_law_size", "_law_rows_here"] (defScope (top 24)) := ⟨rfl, rfl, rfl, by decide +kernel, rfl, by decide +kernel, by decide +kernel⟩
theorem b_law_word_of (g : Gs w K mg) : Binds K (fdOf K (He.ga K "_law_word_of")) ["_law_size", "_law_rows_here"] [] := g.F_law_word_of.bindsN fun _ _ _ _ _ _ us hl => match us, hl with | [_, _], _ => rfl
theorem ok_law_word_of (g : Gs w K mg) : FnOk P w K mg base CX0 1 (He.ga K "_law_word_of") (fdOf K (He.ga K "_law_word_of")) ["_law_size", "_law_rows_here"] (spM (wd K) m_law_word_of) :=
  fnM g.F_law_word_of sc_law_word_of 5 2 rfl rfl fun cdv A outer s H E hr =>
    (xsCons (xsSetLcL (i := 2) (own := [("_law_row_here", 3)]) rfl sc_law_word_of.nd rfl rfl rfl (xiSeq rfl (xVar 1)) (blk_of rfl rfl) (fun _ _ _ _ _ => (wgName (i := 3) (by decide) sc_law_word_of.nd rfl (.inl rfl))) (fun _ _ _ _ _ => xtsNil) (fun _ _ _ _ _ => (xMt mt_join' rfl F.plainAttrs_str F.slot_str_join F.type_str_join mt_join xStr (xaCons (xL (xLc (own := [("_law_k", 4)]) rfl sc_law_word_of.nd (xiSeq rfl (xVar 3)) (blk_of rfl rfl) (fun _ _ _ _ _ => (wgName (i := 4) (by decide) sc_law_word_of.nd rfl (.inl rfl))) (fun _ _ _ _ _ => xtsNil) (fun _ _ _ _ _ => (xCallTy ct_str call_str_int rfl g.b_str bt_str (xaCons (xVar 4) xaNil))))) xaNil))))
    (xsOne (xsRet (xOp ot_add oAdd (xOp ot_add oAdd (xOp ot_add oAdd (xCallTy ct_str call_str_int rfl g.b_str bt_str (xaCons (xVar 0) xaNil)) xStr) (xIf (xtCmp ot_ne (op_neP (room80 hr)) (xVar 2) (xL (xLst xaNil))) xStr xStr)) (xMt mt_join' rfl F.plainAttrs_str F.slot_str_join F.type_str_join mt_join xStr (xaCons (xVar 2) xaNil))))))
theorem sc_law_right : FnScope ["_law_purse_here", "_law_some", "_law_turn", "_law_k", "_law_lines", "_law_size", "_law_rows_here", "_law_grounds", "_law_said", "_law_ground", "_law_both", "_law_shares", "_law_one", "_law_other", "_law_x", "_law_seen", "_law_due", "_law_each", "_law_odd"] ["_law_purse_here"] (defScope (top 26)) := ⟨rfl, rfl, rfl, by decide +kernel, rfl, by decide +kernel, by decide +kernel⟩
theorem b_law_right (g : Gs w K mg) : Binds K (fdOf K (He.ga K "_law_right")) ["_law_purse_here"] [] := g.F_law_right.bindsN fun _ _ _ _ _ _ us hl => match us, hl with | [_], _ => rfl
theorem ok_law_right (g : Gs w K mg) : FnQ P w K mg base (wd K) 7 (He.ga K "_law_right") (fdOf K (He.ga K "_law_right")) ["_law_purse_here"] m_law_right :=
  fnQ g.F_law_right sc_law_right 19 1 rfl rfl fun cdv A outer s H E hq hr =>
    (xsCons (xsSet (i := 1) sc_law_right.nd rfl (.inl rfl) (xH (xCatF (xL (xLc (own := [("_law_turn", 2)]) rfl sc_law_right.nd (xiRange1 rfl g.b_range (xaCons xInt xaNil)) (blk_of rfl rfl) (fun _ _ _ _ _ => (wgName (i := 2) (by decide) sc_law_right.nd rfl (.inl rfl))) (fun _ _ _ _ _ => xtsNil) (fun _ _ _ _ _ => (xCall (ok_law_board g) (hr.mono (by decide)) rfl g.f_law_board g.F_law_board.kp (b_law_board g) (xaCons (xVar 0) xaNil))))) (xL (xLst (xaCons (xTup (xaCons xInt (xaCons (xL (xLst xaNil)) xaNil))) (xaCons (xTup (xaCons xInt (xaCons (xL (xLst (xaCons (xTup (xaCons xInt xaNil)) xaNil))) xaNil))) (xaCons (xTup (xaCons xInt (xaCons (xL (xLc (own := [("_law_k", 3)]) rfl sc_law_right.nd (xiRange1 rfl g.b_range (xaCons xInt xaNil)) (blk_of rfl rfl) (fun _ _ _ _ _ => (wgName (i := 3) (by decide) sc_law_right.nd rfl (.inl rfl))) (fun _ _ _ _ _ => xtsNil) (fun _ _ _ _ _ => (xTup (xaCons (xVar 3) xaNil))))) xaNil))) xaNil))))))))
    (xsCons (xsSet (i := 1) sc_law_right.nd rfl (.inl rfl) (xH (xCatF (xVar 1) (xL (xLst (xaCons (xTup (xaCons xInt (xaCons (xL (xLst (xaCons (xCallTy ct_tuple call_tuple_of rfl g.b_tuple bt_tuple (xaCons (xL (xListRg1 rfl rfl g.b_list rfl g.b_range xInt)) xaNil)) xaNil))) xaNil))) (xaCons (xTup (xaCons xInt (xaCons (xL (xLst xaNil)) xaNil))) xaNil)))))))
    (xsCons (xsExpr (xMt mt_append' rfl F.plainAttrs_list F.slot_list_append F.type_list_append mt_append (xVar 1) (xaCons (xIx rfl (xVar 1) xInt (fun _ _ => rfl)) xaNil)))
    (xsCons (xsSetLcL (i := 4) (own := [("_law_size", 5), ("_law_rows_here", 6)]) rfl sc_law_right.nd rfl rfl rfl (xiSeq rfl (xVar 1)) (blk_of rfl rfl) (fun _ _ _ _ _ => (wgTup (n := 2) rfl rfl (wgsCons (wgName (i := 5) (by decide) sc_law_right.nd rfl (.inl rfl)) (wgsCons (wgName (i := 6) (by decide) sc_law_right.nd rfl (.inl rfl)) wgsNil)))) (fun _ _ _ _ _ => xtsNil) (fun _ _ _ _ _ => (xCall (ok_law_word_of g) (hr.mono (by decide)) rfl g.f_law_word_of g.F_law_word_of.kp (b_law_word_of g) (xaCons (xVar 5) (xaCons (xVar 6) xaNil)))))
    (xsCons (xsSetLcL (i := 7) (own := [("_law_said", 8)]) rfl sc_law_right.nd rfl rfl rfl (xiSeq rfl (xVar 4)) (blk_of rfl rfl) (fun _ _ _ _ _ => (wgName (i := 8) (by decide) sc_law_right.nd rfl (.inl rfl))) (fun _ _ _ _ _ => xtsNil) (fun _ _ _ _ _ => (xIf (xtCmp ot_eq (op_eqP (room80 hr)) (xCall (ok_law_draw g) (hr.mono (by decide)) rfl g.f_law_draw g.F_law_draw.kp (b_law_draw g) (xaCons (xVar 0) (xaCons xInt xaNil))) xInt) (xMake (c := 0) rfl g.m_Board (ok_Board___init__ g) (hr.mono (by decide)) rfl g.f_Board (b_Board___init__ g) (xaCons (xVar 8) xaNil)) (xMakeKw (c := 0) rfl g.m_Board (ok_Board___init__ g) (hr.mono (by decide)) rfl g.f_Board (kb_Board___init___text g) (xkCons (xVar 8) xkNil) (tma_len (len_cons len_nil))))))
    (xsCons (xsFor (fun _ _ z => z.elim) rfl (xiRange1 rfl g.b_range (xaCons xInt xaNil)) (xgName (i := 2) sc_law_right.nd rfl (.inl rfl)) (xsOne (xsFor (fun _ _ z => z.elim) rfl (xiZip3 rfl rfl g.b_zip (xaCons (xVar 7) (xaCons (xVar 1) (xaCons (xVar 4) xaNil)))) (xgTup (n := 3) rfl rfl (xgsCons (xgName (i := 9) sc_law_right.nd rfl (.inr rfl)) (xgsCons (xgName (i := 10) sc_law_right.nd rfl (.inl rfl)) (xgsCons (xgName (i := 8) sc_law_right.nd rfl (.inr rfl)) xgsNil)))) (xsCons (xsAsg (xVar 10) (xgTup (n := 2) rfl rfl (xgsCons (xgName (i := 5) sc_law_right.nd rfl (.inl rfl)) (xgsCons (xgName (i := 6) sc_law_right.nd rfl (.inl rfl)) xgsNil))))
    (xsCons (xsSet (i := 11) sc_law_right.nd rfl (.inl rfl) xInt)
    (xsCons (xsFor (fun _ _ z => z.elim) rfl (xiEnum rfl rfl g.b_enumerate (xaCons (xVar 6) xaNil)) (xgTup (n := 2) rfl rfl (xgsCons (xgName (i := 3) sc_law_right.nd rfl (.inl rfl)) (xgsCons (xgName (i := 12) sc_law_right.nd rfl (.inr rfl)) xgsNil))) (xsOne (xsSet (i := 11) sc_law_right.nd rfl (.inl rfl) (xCallB ct_max (cr_max rfl) rfl g.b_max bt_max (xaCons (xOp ot_add oAdd (xL (xLst (xaCons (xVar 11) xaNil))) (xL (xLc (own := [("_law_other", 13)]) rfl sc_law_right.nd (xiSeq rfl (xSl rfl (xVar 6) xoNo (xoSome (xVar 3)))) (blk_of rfl rfl) (fun _ _ _ _ _ => (wgName (i := 13) (by decide) sc_law_right.nd rfl (.inr rfl))) (fun _ _ _ _ _ => xtsNil) (fun _ _ _ _ _ => (xCallB ct_len call_len rfl g.b_len bt_len (xaCons (xL (xLc (own := [("_law_x", 14)]) rfl sc_law_right.nd (xiSeq rfl (xVar 12)) (blk_of rfl rfl) (fun _ _ _ _ _ => (wgName (i := 14) (by decide) sc_law_right.nd rfl (.inl rfl))) (fun _ _ _ _ _ => (xtsOne (xtCmp ot_inT (oIn (room80 hr)) (xVar 14) (xVar 13)))) (fun _ _ _ _ _ => (xVar 14)))) xaNil)))))) xaNil)))))
    (xsCons (xsSet (i := 15) sc_law_right.nd rfl (.inl rfl) (xL (xLst (xaCons (xProp (c := 0) rfl rfl g.k_Board.cls g.p_Board_text (ok_Board_text g) (hr.mono (by decide)) (b_Board_text g) (xVar 9)) (xaCons (xProp (c := 0) rfl rfl g.k_Board.cls g.p_Board_size (ok_Board_size g) (hr.mono (by decide)) (b_Board_size g) (xVar 9)) (xaCons (xProp (c := 0) rfl rfl g.k_Board.cls g.p_Board_lines (ok_Board_lines g) (hr.mono (by decide)) (b_Board_lines g) (xVar 9)) (xaCons (xProp (c := 0) rfl rfl g.k_Board.cls g.p_Board_is_thin (ok_Board_is_thin g) (hr.mono (by decide)) (b_Board_is_thin g) (xVar 9)) (xaCons (xCallTy (ct_own1 (c := 0) rfl) (cr_strO (ok_Board___str__ g) g.h_Board___str__.at_ g.h_Board___str__.fn (b_Board___str__ g) (hr.mono (by decide))) rfl g.b_str bt_str (xaCons (xVar 9) xaNil)) (xaCons (xCallB (ct_own1 (c := 0) rfl) (cr_reprO (ok_Board___repr__ g) g.h_Board___repr__.at_ g.h_Board___repr__.fn (b_Board___repr__ g) (hr.mono (by decide))) rfl g.b_repr bt_repr (xaCons (xVar 9) xaNil)) (xaCons (xCallTy (ct_boolO (c := 0) rfl) (cr_boolO g.pl_Board.1 g.pl_Board.2) rfl g.b_bool bt_bool (xaCons (xVar 9) xaNil)) xaNil))))))))))
    (xsCons (xsSet (i := 16) sc_law_right.nd rfl (.inl rfl) (xL (xLst (xaCons (xVar 8) (xaCons (xVar 5) (xaCons (xCallTy ct_tuple call_tuple_of rfl g.b_tuple bt_tuple (xaCons (xVar 6) xaNil)) (xaCons (xCmp ot_lt (oLt (room80 hr)) (xVar 11) xInt) (xaCons (xVar 8) (xaCons (xOp ot_add oAdd (xOp ot_add oAdd xStr (xCallTy ct_str call_str_int rfl g.b_str bt_str (xaCons (xVar 5) xaNil))) xStr) (xaCons xBl xaNil))))))))))
    (xsCons (xsIf (xtCmp ot_ne (op_neP (room80 hr)) (xCallB ct_repr (cr_repr hq (room80 hr)) rfl g.b_repr bt_repr (xaCons (xVar 15) xaNil)) (xCallB ct_repr (cr_repr hq (room80 hr)) rfl g.b_repr bt_repr (xaCons (xVar 16) xaNil))) (xsOne (xsRet xBl)) xsNil)
    (xsCons (xsIf (xtCmp ot_ne (op_neP (room80 hr)) (xL (xLc (own := [("_law_each", 17)]) rfl sc_law_right.nd (xiSeq rfl (xVar 7)) (blk_of rfl rfl) (fun _ _ _ _ _ => (wgName (i := 17) (by decide) sc_law_right.nd rfl (.inl rfl))) (fun _ _ _ _ _ => xtsNil) (fun _ _ _ _ _ => (xCmp (ot_eqO g.ok rfl g.nf_Board) (op_eqO (ok_Board___eq__ g) g.h_Board___eq__.at_ g.h_Board___eq__.fn (b_Board___eq__ g) (hr.mono (by decide))) (xVar 9) (xVar 17))))) (xL (xLc (own := [("_law_each", 17)]) rfl sc_law_right.nd (xiSeq rfl (xVar 4)) (blk_of rfl rfl) (fun _ _ _ _ _ => (wgName (i := 17) (by decide) sc_law_right.nd rfl (.inl rfl))) (fun _ _ _ _ _ => xtsNil) (fun _ _ _ _ _ => (xCmp ot_eq (op_eqP (room80 hr)) (xVar 8) (xVar 17)))))) (xsOne (xsRet xBl)) xsNil)
    (xsCons (xsIf (xtCmp ot_ne (op_neP (room80 hr)) (xL (xLc (own := [("_law_each", 17)]) rfl sc_law_right.nd (xiSeq rfl (xVar 7)) (blk_of rfl rfl) (fun _ _ _ _ _ => (wgName (i := 17) (by decide) sc_law_right.nd rfl (.inl rfl))) (fun _ _ _ _ _ => xtsNil) (fun _ _ _ _ _ => (xCmp (ot_eqO g.ok rfl g.nf_Board) (op_neO (ok_Board___eq__ g) g.h_Board___eq__.at_ g.h_Board___eq__.fn (b_Board___eq__ g) (hr.mono (by decide)) g.ne_Board g.k_Board.mro) (xVar 9) (xVar 17))))) (xL (xLc (own := [("_law_each", 17)]) rfl sc_law_right.nd (xiSeq rfl (xVar 4)) (blk_of rfl rfl) (fun _ _ _ _ _ => (wgName (i := 17) (by decide) sc_law_right.nd rfl (.inl rfl))) (fun _ _ _ _ _ => xtsNil) (fun _ _ _ _ _ => (xCmp ot_ne (op_neP (room80 hr)) (xVar 8) (xVar 17)))))) (xsOne (xsRet xBl)) xsNil)
    (xsOne (xsFor (fun _ _ z => z.elim) rfl (xiSeq rfl (xL (xLst (xaCons xNon (xaCons xInt (xaCons (xVar 8) (xaCons (xTup (xaCons (xVar 8) xaNil)) (xaCons (xL (xLst (xaCons (xVar 9) xaNil))) (xaCons xDNew (xaCons xBl xaNil)))))))))) (xgName (i := 18) sc_law_right.nd rfl (.inl rfl)) (xsOne (xsIf (xtW (xwOr (xtCmp (ot_eqO g.ok rfl g.nf_Board) (op_eqO (ok_Board___eq__ g) g.h_Board___eq__.at_ g.h_Board___eq__.fn (b_Board___eq__ g) (hr.mono (by decide))) (xVar 9) (xVar 18)) (xwOr1 (xtNot (xtCmp (ot_eqO g.ok rfl g.nf_Board) (op_neO (ok_Board___eq__ g) g.h_Board___eq__.at_ g.h_Board___eq__.fn (b_Board___eq__ g) (hr.mono (by decide)) g.ne_Board g.k_Board.mro) (xVar 9) (xVar 18)))))) (xsOne (xsRet xBl)) xsNil)))))))))))))))
    (xsOne (xsRet xBl))))))))
theorem sc_law : FnScope ["_law_script", "_law_spot"] ["_law_script"] (defScope (top 27)) := ⟨rfl, rfl, rfl, by decide +kernel, rfl, by decide +kernel, by decide +kernel⟩
theorem b_law (g : Gs w K mg) : Binds K (fdOf K (He.ga K "law")) ["_law_script"] [] := g.F_law.bindsN fun _ _ _ _ _ _ us hl => match us, hl with | [_], _ => rfl
theorem ok_law (g : Gs w K mg) : FnQ P w K mg base (wd K) 8 (He.ga K "law") (fdOf K (He.ga K "law")) ["_law_script"] m_law :=
  fnQ g.F_law sc_law 2 1 rfl rfl fun cdv A outer s H E hq hr =>
    (xsOne (xsRet (xCallB ct_all (cr_all rfl) rfl g.b_all bt_all (xaCons (xL (xLc (own := [("_law_spot", 1)]) rfl sc_law.nd (xiRange1 rfl g.b_range (xaCons (xCallB ct_max2 (call_max2 rfl) rfl g.b_max bt_max (xaCons xInt (xaCons (xCallB ct_min2 (call_min2 rfl) rfl g.b_min bt_min (xaCons (xCallB ct_len call_len rfl g.b_len bt_len (xaCons (xVar 0) xaNil)) (xaCons xInt xaNil))) xaNil))) xaNil)) (blk_of rfl rfl) (fun _ _ _ _ _ => (wgName (i := 1) (by decide) sc_law.nd rfl (.inl rfl))) (fun _ _ _ _ _ => xtsNil) (fun _ _ _ _ _ => (xCallQ (ok_law_right g) hq (hr.mono (by decide)) rfl g.f_law_right g.F_law_right.kp (b_law_right g) (xaCons (xCall (ok_law_purse g) (hr.mono (by decide)) rfl g.f_law_purse g.F_law_purse.kp (b_law_purse g) (xaCons (xVar 0) (xaCons (xVar 1) xaNil))) xaNil))))) xaNil))))
end
end K02

set_option Elab.async false
set_option linter.all false
set_option maxRecDepth 100000
set_option maxHeartbeats 4000000
namespace K02
open K13
open K06
open PySem PySem.Spec PyProof.Rows L2 TL
theorem gs {w : World} {K : PySem.W.Frag} {h : Heap} {mg : Str → Option Value} (X : K.In h) (G : h.Ns mainGlobals mg) (c : He.SaysX fa fn ts [] ex w h K) (cp : prs.map (prW K) = prs.map PrD.val) : Gs w K mg := by
  have cd := c.t.d
  have e_cf_Board : (cfB K (He.ga K "Board")) = true := List.all_eq_true.mp c.more _ (List.mem_of_getElem? (i := 0) rfl)
  have e_i_Board : (isiChk cl K (.ref (He.ga K "Board")) (.o 0)) = true := List.all_eq_true.mp c.more _ (List.mem_of_getElem? (i := 1) rfl)
  have e_i_str : (isiChk cl K (.type "str") (.b "str")) = true := List.all_eq_true.mp c.more _ (List.mem_of_getElem? (i := 2) rfl)
  have e_nf_Board : (nfChk cl K (He.ga K "Board")) = true := List.all_eq_true.mp c.more _ (List.mem_of_getElem? (i := 3) rfl)
  have e_ne_Board : (neB K (He.ga K "Board")) = true := List.all_eq_true.mp c.more _ (List.mem_of_getElem? (i := 4) rfl)
  have e_pl_Board : (plB K (He.ga K "Board")) = true := List.all_eq_true.mp c.more _ (List.mem_of_getElem? (i := 5) rfl)
  have e_pr_Board_text : (prB K pr_Board_text) = true := List.all_eq_true.mp c.more _ (List.mem_of_getElem? (i := 6) rfl)
  have e_pr_Board_is_thin : (prB K pr_Board_is_thin) = true := List.all_eq_true.mp c.more _ (List.mem_of_getElem? (i := 7) rfl)
  have e_pr_Board_lines : (prB K pr_Board_lines) = true := List.all_eq_true.mp c.more _ (List.mem_of_getElem? (i := 8) rfl)
  have e_pr_Board_size : (prB K pr_Board_size) = true := List.all_eq_true.mp c.more _ (List.mem_of_getElem? (i := 9) rfl)
  have k_Board : CF K (He.ga K "Board") := cf_of (cd.fact 32 (f := .cls "Board") rfl) e_cf_Board
  exact {
    b_abs := He.free_ok X G (cd.fact 0 (f := .free "abs") rfl)
    b_all := He.free_ok X G (cd.fact 1 (f := .free "all") rfl)
    b_any := He.free_ok X G (cd.fact 2 (f := .free "any") rfl)
    b_bool := He.free_ok X G (cd.fact 3 (f := .free "bool") rfl)
    b_divmod := He.free_ok X G (cd.fact 4 (f := .free "divmod") rfl)
    b_enumerate := He.free_ok X G (cd.fact 5 (f := .free "enumerate") rfl)
    b_int := He.free_ok X G (cd.fact 6 (f := .free "int") rfl)
    b_isinstance := He.free_ok X G (cd.fact 7 (f := .free "isinstance") rfl)
    b_len := He.free_ok X G (cd.fact 8 (f := .free "len") rfl)
    b_list := He.free_ok X G (cd.fact 9 (f := .free "list") rfl)
    b_max := He.free_ok X G (cd.fact 10 (f := .free "max") rfl)
    b_min := He.free_ok X G (cd.fact 11 (f := .free "min") rfl)
    b_range := He.free_ok X G (cd.fact 12 (f := .free "range") rfl)
    b_repr := He.free_ok X G (cd.fact 13 (f := .free "repr") rfl)
    b_set := He.free_ok X G (cd.fact 14 (f := .free "set") rfl)
    b_sorted := He.free_ok X G (cd.fact 15 (f := .free "sorted") rfl)
    b_str := He.free_ok X G (cd.fact 16 (f := .free "str") rfl)
    b_tuple := He.free_ok X G (cd.fact 17 (f := .free "tuple") rfl)
    b_zip := He.free_ok X G (cd.fact 18 (f := .free "zip") rfl)
    p_Board_text := (pr_ok (pr_at cp (i := 0) (d := pr_Board_text) rfl) e_pr_Board_text).2
    F_Board_text := let ⟨⟨_, z⟩, _⟩ := pr_ok (pr_at cp (i := 0) (d := pr_Board_text) rfl) e_pr_Board_text; funD_at z
    p_Board_is_thin := (pr_ok (pr_at cp (i := 1) (d := pr_Board_is_thin) rfl) e_pr_Board_is_thin).2
    F_Board_is_thin := let ⟨⟨_, z⟩, _⟩ := pr_ok (pr_at cp (i := 1) (d := pr_Board_is_thin) rfl) e_pr_Board_is_thin; funD_at z
    p_Board_lines := (pr_ok (pr_at cp (i := 2) (d := pr_Board_lines) rfl) e_pr_Board_lines).2
    F_Board_lines := let ⟨⟨_, z⟩, _⟩ := pr_ok (pr_at cp (i := 2) (d := pr_Board_lines) rfl) e_pr_Board_lines; funD_at z
    p_Board_size := (pr_ok (pr_at cp (i := 3) (d := pr_Board_size) rfl) e_pr_Board_size).2
    F_Board_size := let ⟨⟨_, z⟩, _⟩ := pr_ok (pr_at cp (i := 3) (d := pr_Board_size) rfl) e_pr_Board_size; funD_at z
    f_law_purse := He.glo_ok X G (cd.fact 19 (f := .glo "_law_purse") rfl)
    F_law_purse := let ⟨_, z⟩ := cd.def_ 0 (d := d_law_purse) rfl; funD_at z
    F_Board___eq__ := let ⟨_, z⟩ := cd.def_ 1 (d := d_Board___eq__) rfl; funD_at z
    f_number_in := He.glo_ok X G (cd.fact 20 (f := .glo "number_in") rfl)
    F_number_in := let ⟨_, z⟩ := cd.def_ 2 (d := d_number_in) rfl; funD_at z
    f_line_in := He.glo_ok X G (cd.fact 21 (f := .glo "line_in") rfl)
    F_line_in := let ⟨_, z⟩ := cd.def_ 3 (d := d_line_in) rfl; funD_at z
    f_lines_in := He.glo_ok X G (cd.fact 22 (f := .glo "lines_in") rfl)
    F_lines_in := let ⟨_, z⟩ := cd.def_ 4 (d := d_lines_in) rfl; funD_at z
    f_board_in := He.glo_ok X G (cd.fact 23 (f := .glo "board_in") rfl)
    F_board_in := let ⟨_, z⟩ := cd.def_ 5 (d := d_board_in) rfl; funD_at z
    F_Board___init__ := let ⟨_, z⟩ := cd.def_ 6 (d := d_Board___init__) rfl; funD_at z
    F_Board___repr__ := let ⟨_, z⟩ := cd.def_ 7 (d := d_Board___repr__) rfl; funD_at z
    F_Board___str__ := let ⟨_, z⟩ := cd.def_ 8 (d := d_Board___str__) rfl; funD_at z
    f_shared := He.glo_ok X G (cd.fact 24 (f := .glo "shared") rfl)
    F_shared := let ⟨_, z⟩ := cd.def_ 9 (d := d_shared) rfl; funD_at z
    f_law_draw := He.glo_ok X G (cd.fact 25 (f := .glo "_law_draw") rfl)
    F_law_draw := let ⟨_, z⟩ := cd.def_ 10 (d := d_law_draw) rfl; funD_at z
    f_law_rows := He.glo_ok X G (cd.fact 26 (f := .glo "_law_rows") rfl)
    F_law_rows := let ⟨_, z⟩ := cd.def_ 11 (d := d_law_rows) rfl; funD_at z
    f_law_board := He.glo_ok X G (cd.fact 27 (f := .glo "_law_board") rfl)
    F_law_board := let ⟨_, z⟩ := cd.def_ 12 (d := d_law_board) rfl; funD_at z
    f_law_word_of := He.glo_ok X G (cd.fact 28 (f := .glo "_law_word_of") rfl)
    F_law_word_of := let ⟨_, z⟩ := cd.def_ 13 (d := d_law_word_of) rfl; funD_at z
    f_law_right := He.glo_ok X G (cd.fact 29 (f := .glo "_law_right") rfl)
    F_law_right := let ⟨_, z⟩ := cd.def_ 14 (d := d_law_right) rfl; funD_at z
    f_law := He.glo_ok X G (cd.fact 30 (f := .glo "law") rfl)
    F_law := let ⟨_, z⟩ := cd.def_ 15 (d := d_law) rfl; funD_at z
    f_Board := He.glo_ok X G (cd.fact 31 (f := .glo "Board") rfl)
    k_Board := k_Board
    m_Board := He.mkr_ok (cd.fact 33 (f := .mkr "Board") rfl)
    ok := wd_ok (fun q hq => by
      simp only [cl, List.mem_cons, List.not_mem_nil, or_false] at hq
      subst hq
      exact k_Board)
    n_Board_many := He.noat_ok (cd.fact 34 (f := .noat "Board" "many") rfl)
    n_Board_rows := He.noat_ok (cd.fact 35 (f := .noat "Board" "rows") rfl)
    n_Board_written := He.noat_ok (cd.fact 36 (f := .noat "Board" "written") rfl)
    h_Board___eq__ := He.meth_ok (cd.fact 37 (f := .meth "Board" "__eq__") rfl)
    h_Board___repr__ := He.meth_ok (cd.fact 38 (f := .meth "Board" "__repr__") rfl)
    h_Board___str__ := He.meth_ok (cd.fact 39 (f := .meth "Board" "__str__") rfl)
    nf_Board := nf_of e_nf_Board
    ne_Board := ne_of e_ne_Board
    pl_Board := pl_of e_pl_Board
    i_Board := isi_of e_i_Board
    i_str := isi_of e_i_str
    c_DIGITS := He.str_ok X G (cd.fact 40 (f := .str "DIGITS" "0123456789") rfl)
    c_MOST_CELLS := He.int_ok X G (cd.fact 41 (f := .int "MOST_CELLS" 30) rfl)
    c_MOST_LINES := He.int_ok X G (cd.fact 42 (f := .int "MOST_LINES" 30) rfl) }
end K02
open PySem PySem.W PySem.Calls PyProof.Rows
set_option maxHeartbeats 0 in
theorem K02.holds_of (pure_law : ∀ ns : List Int, ns.length ≤ 63 → ∃ h', K02.m_law [.arg (ns.map TL.T.int)] [] = .ok (.bl true) h') : PySem.Challenge.rw_pairheld_k02_boards_made.Holds := by
  w_on; o_law
  refine HandSHeadRun.head_any (r := OpenLaw.row PySem.Challenge.rw_pairheld_k02_boards_made) (q := view (OpenLaw.row PySem.Challenge.rw_pairheld_k02_boards_made).prog [27]) (H := K02.hk) (ob := K02.ob) (M := 8000) (loose := K02.lo) (d := HandSHeadRun.topDef (OpenLaw.row PySem.Challenge.rw_pairheld_k02_boards_made).prog 27) (kwd := []) K02.ob_eq
    (by kernel_rfl) (fun s => by kernel_rfl) K02.run (by kernel_rfl) (by kernel_rfl) (by kernel_rfl) (by rfl) (by first | assumption | decide +kernel) (by decide +kernel) ⟨rfl, rfl, rfl, rfl, rfl, by decide +kernel⟩ ?hw ?hc
  case hw => w_witness2
  case hc =>
    refine TL.walkQ (l := PySem.Challenge.rw_pairheld_k02_boards_made) (n := 63) (k := 8) (x := "_law_script") rfl (by decide) (by kernel_rfl) ⟨rfl, by decide, by decide⟩ ?_
    rintro w mg fa h ⟨K, KX, c, cp⟩ G named
    have e1 : (HandSHeadRun.topDef (OpenLaw.row PySem.Challenge.rw_pairheld_k02_boards_made).prog 27).name = ("law" : PySem.Str) := by kernel_rfl
    have g := K02.gs KX G c cp
    have e2 : fa = He.ga K "law" := by
      rw [e1, g.f_law] at named
      cases named
      rfl
    subst e2
    have b := L2.FunD.bindsA (ps := ["_law_script"]) g.F_law fun _ _ _ _ _ _ us hl => match us, hl with | [_], _ => rfl
    exact ⟨K, _, K02.wd K, K02.m_law, KX, rfl, fun s v => b s [v] rfl, pure_law, fun base _ _ => K02.ok_law g⟩

theorem PySem.Challenge.cw_pairheld_k02_boards_made_holds : PySem.Challenge.rw_pairheld_k02_boards_made.Holds := by
  exact K02.holds_of K02.pure_law
