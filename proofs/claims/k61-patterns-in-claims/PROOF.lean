import PyProof.Rows.All
import Wide.All
import OpenK.AllK
import Wide.FinOn
import HandS.ForMost
import HandS.Defaults
import HandS.Property
import HandS.Zip
import HandS.Deep
import HandS.IsInst
import HandS.Conv
import HandS.FStr
import HandS.WideBits
import HandS.HeadEnd
import HandS.HeadHook1
import HandS.HeadHook2
import HandS.HeadHook3
import HandS.HeadHook4
import HandS.Head0
import HandS.Head1
import HandS.Head2
import KE.SortData
import KE.SortKeyHeap
import KE.DataFind
import KE.DataCmp
import KE.Datum
import KE.DatumIndex
import HandS.TupAny
import HandS.Text
import HandS.Style
import HandS.Star
import KE.KDictWalk
import HandS.MakeKwOnly
import PyProof.ReprRoads
import PyProof.FitsInt
import PyProof.StrLawsRepr
import PyProof.StrLawsChain
import PyProof.StrLawsIn
import PyProof.Rows.StrSplitAre
import PyProof.Rows.StrItems
import Lean
import PySem.Challenge.RW_pairheld_k61_patterns_in_claims
set_option Elab.async false
set_option linter.all false
set_option maxRecDepth 100000
set_option maxHeartbeats 4000000
namespace TL
open PySem PySem.Spec L2
abbrev St := L2.St

/-- tree values -/
inductive T where
  | non | bl (b : Bool) | int (i : Int) | str (s : Str)
  | tup (ts : List T) | lst (ts : List T)
  | obj (c : Nat) (fs : List T)
  | ref (n : Nat)
  | arg (ts : List T)
  deriving Inhabited

/-- what stands in the small heap -/
inductive VO where
  | lst (ts : List T)
  | ins (c : Nat) (fs : List T)
  | dct (kvs : List (T × T))
  deriving Inhabited
abbrev VH := List VO

inductive Res (α : Type) where
  | ok (a : α) (h : VH)
  | bad
/-- behind a statement -/
inductive Out where
  | nx (τ : List (Option T)) (h : VH)
  | rt (t : T) (h : VH)
  | bk (τ : List (Option T)) (h : VH)
  | ct (τ : List (Option T)) (h : VH)
  | bad
abbrev TS_ := List (Option T)
abbrev ME := TS_ → VH → Res T
abbrev MA := TS_ → VH → Res (List T)
abbrev MB := TS_ → VH → Res Bool
abbrev MS := TS_ → VH → Out

/-- which addresses may change: those of the small heap by number, those that are being built -/
structure Rh where
  ix : List Addr
  bn : List Addr
def Rh.out (ρ : Rh) (a : Addr) : Prop := a ∉ ρ.ix ∧ a ∉ ρ.bn
def Rh.push (ρ : Rh) (p : Addr) : Rh := ⟨ρ.ix ++ [p], ρ.bn⟩
def Rh.ban (ρ : Rh) (p : Addr) : Rh := ⟨ρ.ix, p :: ρ.bn⟩
/-- the world: the written part, the classes by number, the names of their attributes -/
structure Wd where
  K : PySem.W.Frag
  cm : Nat → Option Addr
  fn : Nat → List Str

def KL (K : PySem.W.Frag) (a : Addr) (xs : List V) : Prop := ∃ (o : Obj) (its : Array Value) (n : Nat), K.lookup a = some o ∧ o.cls = .type "list" ∧ o.dict = none ∧ o.data = .seq its n ∧ its.size ≤ sizeLine ∧ Vals xs its.toList
def KT (K : PySem.W.Frag) (a : Addr) (xs : List V) : Prop := ∃ (o : Obj) (its : Array Value) (n : Nat), K.lookup a = some o ∧ o.cls = .type "tuple" ∧ o.data = .seq its n ∧ its.size ≤ sizeLine ∧ Vals xs its.toList
def LstAt (Y : Wd) (ρ : Rh) (H : Hp) (a : Addr) (xs : List V) : Prop := xs.length ≤ sizeLine ∧ ρ.out a ∧ H a = some (.lst xs)
def ArgAt (Y : Wd) (ρ : Rh) (H : Hp) (a : Addr) (xs : List V) : Prop := xs.length ≤ sizeLine ∧ ((ρ.out a ∧ Rd H a (.lst xs)) ∨ KL Y.K a xs)
def TupAt (Y : Wd) (ρ : Rh) (H : Hp) (a : Addr) (xs : List V) : Prop := xs.length ≤ sizeLine ∧ ((ρ.out a ∧ Rd H a (.tup xs)) ∨ KT Y.K a xs)
theorem LstAt.sq {Y : Wd} {ρ : Rh} {H : Hp} {a : Addr} {xs : List V} (h : LstAt Y ρ H a xs) : SqL Y.K H a xs := .inl (.inl h.2.2)
theorem ArgAt.sq {Y : Wd} {ρ : Rh} {H : Hp} {a : Addr} {xs : List V} (h : ArgAt Y ρ H a xs) : SqL Y.K H a xs := h.2.elim (fun z => .inl z.2) .inr
theorem TupAt.sq {Y : Wd} {ρ : Rh} {H : Hp} {a : Addr} {xs : List V} (h : TupAt Y ρ H a xs) : SqT Y.K H a xs := h.2.elim (fun z => .inl z.2) .inr

mutual
/-- v represents t -/
inductive Rp (Y : Wd) (ρ : Rh) (H : Hp) : T → V → Prop
  | non : Rp Y ρ H .non .non
  | bl (b : Bool) : Rp Y ρ H (.bl b) (.bl b)
  | int (i : Int) : Rp Y ρ H (.int i) (.int i)
  | str {x : Str} : x.length ≤ 1000000 → Rp Y ρ H (.str x) (.str x)
  | tup {a : Addr} {vs : List V} {ts : List T} : TupAt Y ρ H a vs → Rps Y ρ H ts vs → Rp Y ρ H (.tup ts) (.ref a)
  | lst {a : Addr} {vs : List V} {ts : List T} : LstAt Y ρ H a vs → Rps Y ρ H ts vs → Rp Y ρ H (.lst ts) (.ref a)
  | obj {c : Nat} {a C dx : Addr} {vfs : List (Str × V)} {fs : List T} : Y.cm c = some C → ρ.out a → H a = some (.ins C dx vfs) → vfs.map (·.1) = (Y.fn c).take fs.length → Rps Y ρ H fs (vfs.map (·.2)) → Rp Y ρ H (.obj c fs) (.ref a)
  | ref {n : Nat} {a : Addr} : ρ.ix[n]? = some a → Rp Y ρ H (.ref n) (.ref a)
  | arg {a : Addr} {vs : List V} {ts : List T} : ArgAt Y ρ H a vs → Rps Y ρ H ts vs → Rp Y ρ H (.arg ts) (.ref a)
inductive Rps (Y : Wd) (ρ : Rh) (H : Hp) : List T → List V → Prop
  | nil : Rps Y ρ H [] []
  | cons {t : T} {v : V} {ts : List T} {vs : List V} : Rp Y ρ H t v → Rps Y ρ H ts vs → Rps Y ρ H (t :: ts) (v :: vs)
end

/-- the heap has gone on: new tracked things, changes at ρ alone; what is newly banned was not tracked -/
structure EvR (ρ : Rh) (H : Hp) (ρ' : Rh) (H' : Hp) : Prop where
  more : ∃ m, ρ'.ix = ρ.ix ++ m ∧ ∀ p ∈ m, H p = none
  bnr : ∀ a ∈ ρ'.bn, a ∈ ρ.bn ∨ H a = none
  keep : ∀ b o, H b = some o → b ∉ ρ.ix → H' b = some o
  there : ∀ b, H b ≠ none → H' b ≠ none
structure Ev (ρ : Rh) (H : Hp) (ρ' : Rh) (H' : Hp) : Prop extends EvR ρ H ρ' H' where
  bn : ρ'.bn = ρ.bn
theorem Ev.mk' {ρ ρ' : Rh} {H H' : Hp} (more : ∃ m, ρ'.ix = ρ.ix ++ m ∧ ∀ p ∈ m, H p = none) (bn : ρ'.bn = ρ.bn) (keep : ∀ b o, H b = some o → b ∉ ρ.ix → H' b = some o) (there : ∀ b, H b ≠ none → H' b ≠ none) : Ev ρ H ρ' H' :=
  ⟨⟨more, fun a ha => .inl (bn ▸ ha), keep, there⟩, bn⟩
theorem Ev.refl {ρ : Rh} {H : Hp} : Ev ρ H ρ H := .mk' ⟨[], by simp⟩ rfl (fun _ _ e _ => e) (fun _ e => e)
theorem EvR.nix {ρ ρ' : Rh} {H H' : Hp} (e : EvR ρ H ρ' H') {a : Addr} (h : a ∉ ρ.ix) (ha : H a ≠ none) : a ∉ ρ'.ix := by
  obtain ⟨m, em, hm⟩ := e.more
  intro z
  rw [em] at z
  rcases List.mem_append.mp z with z | z
  · exact h z
  · exact ha (hm a z)
theorem EvR.notin {ρ ρ' : Rh} {H H' : Hp} (e : EvR ρ H ρ' H') {a : Addr} (h : ρ.out a) (ha : H a ≠ none) : ρ'.out a := ⟨e.nix h.1 ha, fun z => (e.bnr a z).elim h.2 ha⟩
theorem EvR.get {ρ ρ' : Rh} {H H' : Hp} (e : EvR ρ H ρ' H') {n : Nat} {a : Addr} (h : ρ.ix[n]? = some a) : ρ'.ix[n]? = some a := by
  obtain ⟨m, em, hm⟩ := e.more
  rw [em, List.getElem?_append_left (List.getElem?_eq_some_iff.mp h).1]
  exact h
theorem EvR.fresh {ρ ρ' : Rh} {H H' : Hp} (e : EvR ρ H ρ' H') {p : Addr} (h : H' p = none) : H p = none := by
  cases q : H p with
  | none => rfl
  | some o => exact absurd h (e.there p (by rw [q]; simp))
theorem EvR.trans {ρ ρ1 ρ2 : Rh} {H H1 H2 : Hp} (a : EvR ρ H ρ1 H1) (b : EvR ρ1 H1 ρ2 H2) : EvR ρ H ρ2 H2 := by
  refine ⟨?_, fun c hc => (b.bnr c hc).elim (a.bnr c) (fun z => .inr (a.fresh z)), fun c o e n => b.keep c o (a.keep c o e n) (a.nix n (by rw [e]; simp)), fun c e => b.there c (a.there c e)⟩
  obtain ⟨m1, e1, h1⟩ := a.more
  obtain ⟨m2, e2, h2⟩ := b.more
  refine ⟨m1 ++ m2, by rw [e2, e1, List.append_assoc], fun p hp => ?_⟩
  rcases List.mem_append.mp hp with z | z
  · exact h1 p z
  · exact a.fresh (h2 p z)
theorem Ev.trans {ρ ρ1 ρ2 : Rh} {H H1 H2 : Hp} (a : Ev ρ H ρ1 H1) (b : Ev ρ1 H1 ρ2 H2) : Ev ρ H ρ2 H2 := ⟨a.toEvR.trans b.toEvR, b.bn.trans a.bn⟩
theorem EvR.ban {ρ ρ' : Rh} {H H' : Hp} (e : EvR ρ H ρ' H') {p : Addr} (h : H p = none) : EvR ρ H (ρ'.ban p) H' := ⟨e.more, fun a ha => (List.mem_cons.mp ha).elim (fun z => .inr (z ▸ h)) (e.bnr a), e.keep, e.there⟩
/-- one thing more is tracked -/
theorem Ev.new {ρ : Rh} {H : Hp} {p : Addr} {o : HO} (h : H p = none) : Ev ρ H ρ (upd H p o) :=
  .mk' ⟨[], by simp⟩ rfl (fun b u e _ => by rw [upd_ne (ne_of_none e h)]; exact e) (fun b e => by
    by_cases z : b = p
    · rw [z, upd_same]; simp
    · rw [upd_ne z]; exact e)
/-- and is one that may change -/
theorem Ev.newρ {ρ : Rh} {H : Hp} {p : Addr} {o : HO} (h : H p = none) : Ev ρ H (ρ.push p) (upd H p o) :=
  .mk' ⟨[p], rfl, fun q hq => by rw [List.mem_singleton.mp hq]; exact h⟩ rfl (Ev.new (ρ := ρ) h).keep (Ev.new (ρ := ρ) h).there
/-- a change at ρ -/
theorem Ev.write {ρ : Rh} {H : Hp} {p : Addr} {o : HO} (h : p ∈ ρ.ix) : Ev ρ H ρ (upd H p o) :=
  .mk' ⟨[], by simp⟩ rfl (fun b u e n => by rw [upd_ne (fun z => n (by rw [z]; exact h))]; exact e) (fun b e => by
    by_cases z : b = p
    · rw [z, upd_same]; simp
    · rw [upd_ne z]; exact e)
theorem Rd.some {H : Hp} {a : Addr} {u : HO} (r : Rd H a u) : H a ≠ none := by
  rcases r with r | ⟨o, r⟩ <;> rw [r] <;> simp
theorem Rd.ev {ρ ρ' : Rh} {H H' : Hp} (e : EvR ρ H ρ' H') {a : Addr} {u : HO} (h : ρ.out a) (r : Rd H a u) : ρ'.out a ∧ Rd H' a u := by
  refine ⟨e.notin h (Rd.some r), ?_⟩
  rcases r with r | ⟨o, r⟩
  · exact .inl (e.keep _ _ r h.1)
  · exact .inr ⟨o, e.keep _ _ r h.1⟩
theorem LstAt.ev {Y : Wd} {ρ ρ' : Rh} {H H' : Hp} (e : EvR ρ H ρ' H') {a : Addr} {xs : List V} (h : LstAt Y ρ H a xs) : LstAt Y ρ' H' a xs :=
  ⟨h.1, e.notin h.2.1 (by rw [h.2.2]; simp), e.keep _ _ h.2.2 h.2.1.1⟩
theorem ArgAt.ev {Y : Wd} {ρ ρ' : Rh} {H H' : Hp} (e : EvR ρ H ρ' H') {a : Addr} {xs : List V} (h : ArgAt Y ρ H a xs) : ArgAt Y ρ' H' a xs :=
  ⟨h.1, h.2.elim (fun z => .inl (Rd.ev e z.1 z.2)) .inr⟩
theorem TupAt.ev {Y : Wd} {ρ ρ' : Rh} {H H' : Hp} (e : EvR ρ H ρ' H') {a : Addr} {xs : List V} (h : TupAt Y ρ H a xs) : TupAt Y ρ' H' a xs :=
  ⟨h.1, h.2.elim (fun z => .inl (Rd.ev e z.1 z.2)) .inr⟩
mutual
theorem Rp.ev {Y : Wd} {ρ ρ' : Rh} {H H' : Hp} (e : EvR ρ H ρ' H') : ∀ {t : T} {v : V}, Rp Y ρ H t v → Rp Y ρ' H' t v
  | _, _, .non => .non
  | _, _, .bl b => .bl b
  | _, _, .int i => .int i
  | _, _, .str h => .str h
  | _, _, .tup h r => .tup (h.ev e) (r.ev e)
  | _, _, .arg h r => .arg (h.ev e) (r.ev e)
  | _, _, .lst h r => .lst (h.ev e) (r.ev e)
  | _, _, .obj c n h nm r => .obj c (e.notin n (by rw [h]; simp)) (e.keep _ _ h n.1) nm (r.ev e)
  | _, _, .ref h => .ref (e.get h)
theorem Rps.ev {Y : Wd} {ρ ρ' : Rh} {H H' : Hp} (e : EvR ρ H ρ' H') : ∀ {ts : List T} {vs : List V}, Rps Y ρ H ts vs → Rps Y ρ' H' ts vs
  | _, _, .nil => .nil
  | _, _, .cons a b => .cons (a.ev e) (b.ev e)
end
theorem Rps.length {Y : Wd} {ρ : Rh} {H : Hp} : ∀ {ts : List T} {vs : List V}, Rps Y ρ H ts vs → vs.length = ts.length
  | _, _, .nil => rfl
  | _, _, .cons _ b => by simp [b.length]
theorem Rps.get {Y : Wd} {ρ : Rh} {H : Hp} : ∀ {ts : List T} {vs : List V} {i : Nat} {t : T}, Rps Y ρ H ts vs → ts[i]? = some t → ∃ v, vs[i]? = some v ∧ Rp Y ρ H t v
  | _, _, _, _, .nil, e => by simp at e
  | _, _, 0, _, .cons a _, e => by simp at e; subst e; exact ⟨_, rfl, a⟩
  | _, _, i + 1, _, .cons _ b, e => by simpa using b.get (i := i) (by simpa using e)
theorem Rps.append {Y : Wd} {ρ : Rh} {H : Hp} : ∀ {ts us : List T} {vs ws : List V}, Rps Y ρ H ts vs → Rps Y ρ H us ws → Rps Y ρ H (ts ++ us) (vs ++ ws)
  | _, _, _, _, .nil, b => b
  | _, _, _, _, .cons a c, b => .cons a (c.append b)
theorem Rps.take {Y : Wd} {ρ : Rh} {H : Hp} (n : Nat) : ∀ {ts : List T} {vs : List V}, Rps Y ρ H ts vs → Rps Y ρ H (ts.take n) (vs.take n)
  | _, _, .nil => by simp; exact .nil
  | _, _, .cons a b => by
    cases n with
    | zero => exact .nil
    | succ n => exact .cons a (b.take n)
theorem Rps.drop {Y : Wd} {ρ : Rh} {H : Hp} (n : Nat) : ∀ {ts : List T} {vs : List V}, Rps Y ρ H ts vs → Rps Y ρ H (ts.drop n) (vs.drop n)
  | _, _, .nil => by simp; exact .nil
  | _, _, .cons a b => by
    cases n with
    | zero => exact .cons a b
    | succ n => exact b.drop n
theorem Rps.set {Y : Wd} {ρ : Rh} {H : Hp} {t : T} {v : V} (r : Rp Y ρ H t v) : ∀ {ts : List T} {vs : List V} (i : Nat), Rps Y ρ H ts vs → Rps Y ρ H (ts.set i t) (vs.set i v)
  | _, _, _, .nil => .nil
  | _, _, 0, .cons _ b => .cons r b
  | _, _, i + 1, .cons a b => .cons a (Rps.set r i b)
theorem Rps.reverse {Y : Wd} {ρ : Rh} {H : Hp} : ∀ {ts : List T} {vs : List V}, Rps Y ρ H ts vs → Rps Y ρ H ts.reverse vs.reverse
  | _, _, .nil => by simp; exact .nil
  | _, _, .cons a b => by simp only [List.reverse_cons]; exact b.reverse.append (.cons a .nil)
theorem Rps.snoc {Y : Wd} {ρ : Rh} {H : Hp} {ts : List T} {vs : List V} {t : T} {v : V} (a : Rps Y ρ H ts vs) (b : Rp Y ρ H t v) : Rps Y ρ H (ts ++ [t]) (vs ++ [v]) := a.append (.cons b .nil)

/-- an object of the small heap at a -/
def OR (Y : Wd) (ρ : Rh) (H : Hp) (a : Addr) : VO → Prop
  | .lst ts => ∃ vs, H a = some (.lst vs) ∧ vs.length ≤ sizeLine ∧ Rps Y ρ H ts vs
  | .ins c fs => ∃ C dx vfs, Y.cm c = some C ∧ H a = some (.ins C dx vfs) ∧ vfs.map (·.1) = (Y.fn c).take fs.length ∧ Rps Y ρ H fs (vfs.map (·.2))
  | .dct kvs => ∃ vkvs : List (Key × V), H a = some (.dK vkvs) ∧ Rps Y ρ H (kvs.map (·.1)) (vkvs.map fun q => kV q.1) ∧ Rps Y ρ H (kvs.map (·.2)) (vkvs.map (·.2))
/-- the small heap -/
structure HR (Y : Wd) (ρ : Rh) (H : Hp) (h : VH) : Prop where
  len : ρ.ix.length = h.length
  nd : ρ.ix.Nodup
  bt : ∀ a ∈ ρ.bn, H a ≠ none ∧ a ∉ ρ.ix
  at_ : ∀ (n : Nat) (o : VO) (a : Addr), h[n]? = some o → ρ.ix[n]? = some a → OR Y ρ H a o
theorem OR.same {Y : Wd} {ρ ρ' : Rh} {H H' : Hp} (e : EvR ρ H ρ' H') {a : Addr} {o : VO} (s : H' a = H a) (r : OR Y ρ H a o) : OR Y ρ' H' a o := by
  cases o with
  | lst ts => obtain ⟨vs, h1, hz, h2⟩ := r; exact ⟨vs, s.trans h1, hz, h2.ev e⟩
  | ins c fs => obtain ⟨C, dx, vfs, hc, h1, hn, h2⟩ := r; exact ⟨C, dx, vfs, hc, s.trans h1, hn, h2.ev e⟩
  | dct kvs => obtain ⟨vk, h1, h2, h3⟩ := r; exact ⟨vk, s.trans h1, h2.ev e, h3.ev e⟩
theorem OR.some {Y : Wd} {ρ : Rh} {H : Hp} {a : Addr} {o : VO} (r : OR Y ρ H a o) : H a ≠ none := by
  cases o with
  | lst ts => obtain ⟨vs, h1, h2⟩ := r; rw [h1]; simp
  | ins c fs => obtain ⟨C, dx, vfs, hc, h1, hn, h2⟩ := r; rw [h1]; simp
  | dct kvs => obtain ⟨vk, h1, h2, h3⟩ := r; rw [h1]; simp
theorem HR.there {Y : Wd} {ρ : Rh} {H : Hp} {h : VH} (r : HR Y ρ H h) {a : Addr} (m : a ∈ ρ.ix) : H a ≠ none := by
  obtain ⟨n, hn, e⟩ := List.getElem_of_mem m
  have hh : n < h.length := by rw [← r.len]; exact hn
  exact (r.at_ n h[n] a (List.getElem?_eq_getElem hh) (by rw [List.getElem?_eq_getElem hn, e])).some
theorem HR.outof {Y : Wd} {ρ : Rh} {H : Hp} {h : VH} (r : HR Y ρ H h) {a : Addr} (m : H a = none) : ρ.out a := ⟨fun z => r.there z m, fun z => (r.bt a z).1 m⟩
/-- all that was tracked stands -/
theorem HR.grow {Y : Wd} {ρ : Rh} {H H' : Hp} {h : VH} (r : HR Y ρ H h) (k : ∀ b o, H b = some o → H' b = some o) : HR Y ρ H' h := by
  have th : ∀ b, H b ≠ none → H' b ≠ none := fun b z => by
    cases q : H b with
    | none => exact absurd q z
    | some o => rw [k b o q]; simp
  have e : EvR ρ H ρ H' := ⟨⟨[], by simp⟩, fun a ha => .inl ha, fun b o z _ => k b o z, th⟩
  refine ⟨r.len, r.nd, fun a ha => ⟨th a (r.bt a ha).1, (r.bt a ha).2⟩, fun n o a h1 h2 => (r.at_ n o a h1 h2).same e ?_⟩
  have z := r.there (List.mem_of_getElem? h2)
  cases q : H a with
  | none => exact absurd q z
  | some o => rw [k a o q]
theorem HR.new {Y : Wd} {ρ : Rh} {H : Hp} {h : VH} (r : HR Y ρ H h) {p : Addr} {o : HO} (hp : H p = none) : HR Y ρ (upd H p o) h := r.grow fun b u e => by rw [upd_ne (ne_of_none e hp)]; exact e
/-- a new one that may change -/
theorem HR.push {Y : Wd} {ρ : Rh} {H : Hp} {h : VH} (r : HR Y ρ H h) {p : Addr} {o : HO} {vo : VO} (hp : H p = none) (ho : OR Y (ρ.push p) (upd H p o) p vo) : HR Y (ρ.push p) (upd H p o) (h ++ [vo]) := by
  obtain ⟨np, nb⟩ := r.outof hp
  refine ⟨by simp [Rh.push, r.len], ?_, fun a ha => ?_, fun n o' a h1 h2 => ?_⟩
  · show (ρ.ix ++ [p]).Nodup
    rw [List.nodup_append]
    exact ⟨r.nd, by simp, fun a ha b hb z => by rw [List.mem_singleton.mp hb] at z; exact np (z ▸ ha)⟩
  · have hne : a ≠ p := fun z => nb (by rw [← z]; exact ha)
    refine ⟨by rw [upd_ne hne]; exact (r.bt a ha).1, fun z => ?_⟩
    rcases List.mem_append.mp (show a ∈ ρ.ix ++ [p] from z) with z | z
    · exact (r.bt a ha).2 z
    · exact hne (List.mem_singleton.mp z)
  · have h2 : (ρ.ix ++ [p])[n]? = some a := h2
    by_cases hn : n < h.length
    · rw [List.getElem?_append_left hn] at h1
      rw [List.getElem?_append_left (by rw [r.len]; exact hn)] at h2
      refine (r.at_ n o' a h1 h2).same (Ev.newρ hp).toEvR ?_
      exact upd_ne (fun z => np (by rw [← z]; exact List.mem_of_getElem? h2))
    · have e : n = h.length := by
        have := (List.getElem?_eq_some_iff.mp h1).1
        simp at this; omega
      subst e
      rw [List.getElem?_append_right (Nat.le_refl _)] at h1
      rw [List.getElem?_append_right (by rw [r.len]; exact Nat.le_refl _), r.len] at h2
      simp at h1 h2
      subst h1 h2
      exact ho
/-- a change -/
theorem HR.write {Y : Wd} {ρ : Rh} {H : Hp} {h : VH} (r : HR Y ρ H h) {n : Nat} {p : Addr} {o : HO} {vo : VO} (hp : ρ.ix[n]? = some p) (ho : OR Y ρ (upd H p o) p vo) : HR Y ρ (upd H p o) (h.set n vo) := by
  have mp := List.mem_of_getElem? hp
  refine ⟨by simp [r.len], r.nd, fun a ha => ⟨(Ev.write (o := o) mp).there a (r.bt a ha).1, (r.bt a ha).2⟩, fun k o' a h1 h2 => ?_⟩
  by_cases hk : k = n
  · subst hk
    have : k < h.length := by
      have := (List.getElem?_eq_some_iff.mp h1).1
      simpa using this
    rw [List.getElem?_set_self this] at h1
    cases h1
    rw [hp] at h2; cases h2
    exact ho
  · rw [List.getElem?_set_ne (Ne.symm hk)] at h1
    refine (r.at_ k o' a h1 h2).same (Ev.write mp).toEvR ?_
    refine upd_ne fun z => hk ?_
    subst z
    obtain ⟨a1, e1⟩ := List.getElem?_eq_some_iff.mp hp
    obtain ⟨a2, e2⟩ := List.getElem?_eq_some_iff.mp h2
    exact (List.getElem_inj r.nd).mp (e2.trans e1.symm)

/-! ### what is being built -/
theorem Rh.out_unban {ρ : Rh} {p a : Addr} (h : (ρ.ban p).out a) : ρ.out a := ⟨h.1, fun z => h.2 (List.mem_cons_of_mem _ z)⟩
mutual
theorem Rp.unban {Y : Wd} {ρ : Rh} {H : Hp} {p : Addr} : ∀ {t : T} {v : V}, Rp Y (ρ.ban p) H t v → Rp Y ρ H t v
  | _, _, .non => .non
  | _, _, .bl b => .bl b
  | _, _, .int i => .int i
  | _, _, .str h => .str h
  | _, _, .tup h r => .tup ⟨h.1, h.2.elim (fun z => .inl ⟨Rh.out_unban z.1, z.2⟩) .inr⟩ r.unban
  | _, _, .arg h r => .arg ⟨h.1, h.2.elim (fun z => .inl ⟨Rh.out_unban z.1, z.2⟩) .inr⟩ r.unban
  | _, _, .lst h r => .lst ⟨h.1, Rh.out_unban h.2.1, h.2.2⟩ r.unban
  | _, _, .obj c n h nm r => .obj c (Rh.out_unban n) h nm r.unban
  | _, _, .ref h => .ref h
theorem Rps.unban {Y : Wd} {ρ : Rh} {H : Hp} {p : Addr} : ∀ {ts : List T} {vs : List V}, Rps Y (ρ.ban p) H ts vs → Rps Y ρ H ts vs
  | _, _, .nil => .nil
  | _, _, .cons a b => .cons a.unban b.unban
end
theorem OR.unban {Y : Wd} {ρ : Rh} {H : Hp} {p a : Addr} {o : VO} (r : OR Y (ρ.ban p) H a o) : OR Y ρ H a o := by
  cases o with
  | lst ts => obtain ⟨vs, h1, hz, h2⟩ := r; exact ⟨vs, h1, hz, h2.unban⟩
  | ins c fs => obtain ⟨C, dx, vfs, hc, h1, hn, h2⟩ := r; exact ⟨C, dx, vfs, hc, h1, hn, h2.unban⟩
  | dct kvs => obtain ⟨vk, h1, h2, h3⟩ := r; exact ⟨vk, h1, h2.unban, h3.unban⟩
theorem HR.unban {Y : Wd} {ρ : Rh} {H : Hp} {h : VH} {p : Addr} (r : HR Y (ρ.ban p) H h) : HR Y ρ H h := ⟨r.len, r.nd, fun a ha => r.bt a (List.mem_cons_of_mem _ ha), fun n o a h1 h2 => (r.at_ n o a h1 h2).unban⟩
/-- what stood ahead of a fresh thing -/
theorem out_ban {ρ : Rh} {H : Hp} {p a : Addr} (hp : H p = none) (ha : H a ≠ none) (h : ρ.out a) : (ρ.ban p).out a := ⟨h.1, fun z => by
  rcases List.mem_cons.mp z with z | z
  · exact ha (z ▸ hp)
  · exact h.2 z⟩
mutual
theorem Rp.ban {Y : Wd} {ρ : Rh} {H : Hp} {p : Addr} (hp : H p = none) : ∀ {t : T} {v : V}, Rp Y ρ H t v → Rp Y (ρ.ban p) H t v
  | _, _, .non => .non
  | _, _, .bl b => .bl b
  | _, _, .int i => .int i
  | _, _, .str h => .str h
  | _, _, .tup h r => .tup ⟨h.1, h.2.elim (fun z => .inl ⟨out_ban hp (Rd.some z.2) z.1, z.2⟩) .inr⟩ (r.ban hp)
  | _, _, .arg h r => .arg ⟨h.1, h.2.elim (fun z => .inl ⟨out_ban hp (Rd.some z.2) z.1, z.2⟩) .inr⟩ (r.ban hp)
  | _, _, .lst h r => .lst ⟨h.1, out_ban hp (by rw [h.2.2]; simp) h.2.1, h.2.2⟩ (r.ban hp)
  | _, _, .obj c n h nm r => .obj c (out_ban hp (by rw [h]; simp) n) h nm (r.ban hp)
  | _, _, .ref h => .ref h
theorem Rps.ban {Y : Wd} {ρ : Rh} {H : Hp} {p : Addr} (hp : H p = none) : ∀ {ts : List T} {vs : List V}, Rps Y ρ H ts vs → Rps Y (ρ.ban p) H ts vs
  | _, _, .nil => .nil
  | _, _, .cons a b => .cons (a.ban hp) (b.ban hp)
end
theorem OR.ban {Y : Wd} {ρ : Rh} {H : Hp} {p a : Addr} (hp : H p = none) {o : VO} (r : OR Y ρ H a o) : OR Y (ρ.ban p) H a o := by
  cases o with
  | lst ts => obtain ⟨vs, h1, hz, h2⟩ := r; exact ⟨vs, h1, hz, h2.ban hp⟩
  | ins c fs => obtain ⟨C, dx, vfs, hc, h1, hn, h2⟩ := r; exact ⟨C, dx, vfs, hc, h1, hn, h2.ban hp⟩
  | dct kvs => obtain ⟨vk, h1, h2, h3⟩ := r; exact ⟨vk, h1, h2.ban hp, h3.ban hp⟩
/-- a change at a banned thing -/
theorem out_ne {ρ : Rh} {p a : Addr} (hp : p ∈ ρ.bn) (h : ρ.out a) : a ≠ p := fun z => h.2 (z ▸ hp)
theorem Rd.updb {ρ : Rh} {H : Hp} {p a : Addr} {o u : HO} (hp : p ∈ ρ.bn) (h : ρ.out a) (r : Rd H a u) : Rd (upd H p o) a u := by
  rcases r with r | ⟨q, r⟩
  · exact .inl (by rw [upd_ne (out_ne hp h)]; exact r)
  · exact .inr ⟨q, by rw [upd_ne (out_ne hp h)]; exact r⟩
mutual
theorem Rp.updb {Y : Wd} {ρ : Rh} {H : Hp} {p : Addr} {o : HO} (hp : p ∈ ρ.bn) : ∀ {t : T} {v : V}, Rp Y ρ H t v → Rp Y ρ (upd H p o) t v
  | _, _, .non => .non
  | _, _, .bl b => .bl b
  | _, _, .int i => .int i
  | _, _, .str h => .str h
  | _, _, .tup h r => .tup ⟨h.1, h.2.elim (fun z => .inl ⟨z.1, Rd.updb hp z.1 z.2⟩) .inr⟩ (r.updb hp)
  | _, _, .arg h r => .arg ⟨h.1, h.2.elim (fun z => .inl ⟨z.1, Rd.updb hp z.1 z.2⟩) .inr⟩ (r.updb hp)
  | _, _, .lst h r => .lst ⟨h.1, h.2.1, by rw [upd_ne (out_ne hp h.2.1)]; exact h.2.2⟩ (r.updb hp)
  | _, _, .obj c n h nm r => .obj c n (by rw [upd_ne (out_ne hp n)]; exact h) nm (r.updb hp)
  | _, _, .ref h => .ref h
theorem Rps.updb {Y : Wd} {ρ : Rh} {H : Hp} {p : Addr} {o : HO} (hp : p ∈ ρ.bn) : ∀ {ts : List T} {vs : List V}, Rps Y ρ H ts vs → Rps Y ρ (upd H p o) ts vs
  | _, _, .nil => .nil
  | _, _, .cons a b => .cons (a.updb hp) (b.updb hp)
end
theorem HR.updb {Y : Wd} {ρ : Rh} {H : Hp} {h : VH} {p : Addr} {o : HO} (hp : p ∈ ρ.bn) (r : HR Y ρ H h) : HR Y ρ (upd H p o) h := by
  refine ⟨r.len, r.nd, fun a ha => ⟨?_, (r.bt a ha).2⟩, fun n vo a h1 h2 => ?_⟩
  · by_cases z : a = p
    · rw [z, upd_same]; simp
    · rw [upd_ne z]; exact (r.bt a ha).1
  · have ne : a ≠ p := fun z => (r.bt p hp).2 (by rw [← z]; exact List.mem_of_getElem? h2)
    have q := r.at_ n vo a h1 h2
    cases vo with
    | lst ts => obtain ⟨vs, h1, hz, h2⟩ := q; exact ⟨vs, by rw [upd_ne ne]; exact h1, hz, h2.updb hp⟩
    | ins c fs => obtain ⟨C, dx, vfs, hc, h1, hn, h2⟩ := q; exact ⟨C, dx, vfs, hc, by rw [upd_ne ne]; exact h1, hn, h2.updb hp⟩
    | dct kvs => obtain ⟨vk, h1, h2, h3⟩ := q; exact ⟨vk, by rw [upd_ne ne]; exact h1, h2.updb hp, h3.updb hp⟩
/-- a fresh thing begins to be built -/
theorem HR.begin {Y : Wd} {ρ : Rh} {H : Hp} {h : VH} {p : Addr} {o : HO} (hp : H p = none) (r : HR Y ρ H h) : HR Y (ρ.ban p) (upd H p o) h := by
  have r2 : HR Y ρ (upd H p o) h := r.new hp
  refine ⟨r2.len, r2.nd, fun a ha => ?_, fun n vo a h1 h2 => ?_⟩
  · rcases List.mem_cons.mp ha with z | z
    · rw [z, upd_same]
      exact ⟨by simp, (r.outof hp).1⟩
    · exact r2.bt a z
  · have ne : a ≠ p := fun z => (r.outof hp).1 (by rw [← z]; exact List.mem_of_getElem? h2)
    have q := (r.at_ n vo a h1 h2).ban hp
    have mb : p ∈ (ρ.ban p).bn := List.mem_cons_self
    cases vo with
    | lst ts => obtain ⟨vs, h1, hz, h2⟩ := q; exact ⟨vs, by rw [upd_ne ne]; exact h1, hz, h2.updb mb⟩
    | ins c fs => obtain ⟨C, dx, vfs, hc, h1, hn, h2⟩ := q; exact ⟨C, dx, vfs, hc, by rw [upd_ne ne]; exact h1, hn, h2.updb mb⟩
    | dct kvs => obtain ⟨vk, h1, h2, h3⟩ := q; exact ⟨vk, by rw [upd_ne ne]; exact h1, h2.updb mb, h3.updb mb⟩
/-- what was built may change from now on -/
theorem Rh.out_push {ρ : Rh} {p a : Addr} (z : (ρ.ban p).out a) : (ρ.push p).out a := ⟨fun zz => by
  rcases List.mem_append.mp (show a ∈ ρ.ix ++ [p] from zz) with y | y
  · exact z.1 y
  · exact z.2 (by rw [List.mem_singleton.mp y]; exact List.mem_cons_self), fun zz => z.2 (List.mem_cons_of_mem _ zz)⟩
mutual
theorem Rp.topush {Y : Wd} {ρ : Rh} {H : Hp} {p : Addr} : ∀ {t : T} {v : V}, Rp Y (ρ.ban p) H t v → Rp Y (ρ.push p) H t v
  | _, _, .non => .non
  | _, _, .bl b => .bl b
  | _, _, .int i => .int i
  | _, _, .str h => .str h
  | _, _, .tup h r => .tup ⟨h.1, h.2.elim (fun z => .inl ⟨Rh.out_push z.1, z.2⟩) .inr⟩ r.topush
  | _, _, .arg h r => .arg ⟨h.1, h.2.elim (fun z => .inl ⟨Rh.out_push z.1, z.2⟩) .inr⟩ r.topush
  | _, _, .lst h r => .lst ⟨h.1, Rh.out_push h.2.1, h.2.2⟩ r.topush
  | _, _, .obj c n h nm r => .obj c (Rh.out_push n) h nm r.topush
  | _, _, .ref h => .ref (by
    have h' : ρ.ix[_]? = some _ := h
    show (ρ.ix ++ [p])[_]? = _
    rw [List.getElem?_append_left (List.getElem?_eq_some_iff.mp h').1]; exact h')
theorem Rps.topush {Y : Wd} {ρ : Rh} {H : Hp} {p : Addr} : ∀ {ts : List T} {vs : List V}, Rps Y (ρ.ban p) H ts vs → Rps Y (ρ.push p) H ts vs
  | _, _, .nil => .nil
  | _, _, .cons a b => .cons a.topush b.topush
end
theorem HR.topush {Y : Wd} {ρ : Rh} {H : Hp} {h : VH} {p : Addr} {vo : VO} (hp : p ∉ ρ.bn) (r : HR Y (ρ.ban p) H h) (ho : OR Y (ρ.push p) H p vo) : HR Y (ρ.push p) H (h ++ [vo]) := by
  have nix : p ∉ ρ.ix := (r.bt p List.mem_cons_self).2
  refine ⟨?_, ?_, fun a ha => ?_, fun n o a q1 q2 => ?_⟩
  · have z : ρ.ix.length = h.length := r.len
    show (ρ.ix ++ [p]).length = (h ++ [vo]).length
    simp [z]
  · show (ρ.ix ++ [p]).Nodup
    rw [List.nodup_append]
    exact ⟨r.nd, by simp, fun a ha b hb z => by rw [List.mem_singleton.mp hb] at z; exact nix (z ▸ ha)⟩
  · have ha : a ∈ ρ.bn := ha
    refine ⟨(r.unban.bt a ha).1, fun z => ?_⟩
    rcases List.mem_append.mp (show a ∈ ρ.ix ++ [p] from z) with z | z
    · exact (r.unban.bt a ha).2 z
    · rw [List.mem_singleton.mp z] at ha
      exact hp ha
  · have q2 : (ρ.ix ++ [p])[n]? = some a := q2
    have hlen : ρ.ix.length = h.length := r.len
    by_cases hn : n < ρ.ix.length
    · rw [List.getElem?_append_left (by rw [← hlen]; exact hn)] at q1
      rw [List.getElem?_append_left hn] at q2
      have q := r.at_ n o a q1 q2
      cases o with
      | lst us => obtain ⟨ws', b1, b2, b3⟩ := q; exact ⟨ws', b1, b2, b3.topush⟩
      | ins cc fs => obtain ⟨C, dx, vfs, b0, b1, b2, b3⟩ := q; exact ⟨C, dx, vfs, b0, b1, b2, b3.topush⟩
      | dct kvs => obtain ⟨vk, b1, b2, b3⟩ := q; exact ⟨vk, b1, b2.topush, b3.topush⟩
    · have en : n = ρ.ix.length := by
        have z := (List.getElem?_eq_some_iff.mp q2).1
        simp at z; omega
      rw [en, List.getElem?_append_right (Nat.le_refl _)] at q2
      rw [en, hlen, List.getElem?_append_right (Nat.le_refl _)] at q1
      simp at q1 q2
      subst q1 q2
      exact ho

/-- the slots -/
def Sl (Y : Wd) (ρ : Rh) (H : Hp) (τ : TS_) (σ : St) : Prop := τ.length = σ.length ∧ ∀ (i : Nat) (t : T), τ[i]? = some (some t) → ∃ v, σ[i]? = some (some v) ∧ Rp Y ρ H t v
theorem Sl.ev {Y : Wd} {ρ ρ' : Rh} {H H' : Hp} {τ : TS_} {σ : St} (e : EvR ρ H ρ' H') (s : Sl Y ρ H τ σ) : Sl Y ρ' H' τ σ := ⟨s.1, fun i t h => let ⟨v, a, b⟩ := s.2 i t h; ⟨v, a, b.ev e⟩⟩
theorem Sl.set {Y : Wd} {ρ : Rh} {H : Hp} {τ : TS_} {σ : St} (s : Sl Y ρ H τ σ) {t : T} {v : V} (i : Nat) (r : Rp Y ρ H t v) : Sl Y ρ H (τ.set i (some t)) (σ.set i (some v)) := by
  refine ⟨by simp [s.1], fun j t' h => ?_⟩
  by_cases hj : i = j
  · subst hj
    have hi : i < τ.length := by
      have := (List.getElem?_eq_some_iff.mp h).1
      simpa using this
    rw [List.getElem?_set_self hi] at h
    cases h
    exact ⟨v, List.getElem?_set_self (by rw [← s.1]; exact hi), r⟩
  · rw [List.getElem?_set_ne hj] at h ⊢
    exact s.2 j t' h

/-- what a reading of a mirror's expression asks -/
structure Go (Y : Wd) (ρ : Rh) (H : Hp) (τ : TS_) (σ : St) (h : VH) : Prop where
  sl : Sl Y ρ H τ σ
  hr : HR Y ρ H h
/-- behind an expression -/
structure To {α β : Type} (Y : Wd) (R : Rh → Hp → α → β → Prop) (ρ : Rh) (H : Hp) (t : α) (h' : VH) (Q : β → Hp → Prop) : Prop where
  to : ∀ ρ' H' v, Ev ρ H ρ' H' → HR Y ρ' H' h' → R ρ' H' t v → Q v H'
def TM (Y : Wd) (f : ME) : TE := fun σ H Q => ∃ ρ τ h t h', Go Y ρ H τ σ h ∧ f τ h = .ok t h' ∧ To Y (Rp Y) ρ H t h' Q
def TMA (Y : Wd) (f : MA) : TA := fun σ H Q => ∃ ρ τ h t h', Go Y ρ H τ σ h ∧ f τ h = .ok t h' ∧ To Y (Rps Y) ρ H t h' Q
def TMB (Y : Wd) (f : MB) : TT := fun σ H Q => ∃ ρ τ h t h', Go Y ρ H τ σ h ∧ f τ h = .ok t h' ∧ To Y (fun _ _ a b => a = b) ρ H t h' Q
/-- behind a statement -/
def OutTo (Y : Wd) (ρ : Rh) (H : Hp) (o : Out) (D : Ends) : Prop := match o with
  | .nx τ h => ∀ ρ' H' σ, Ev ρ H ρ' H' → HR Y ρ' H' h → Sl Y ρ' H' τ σ → D.nx σ H'
  | .bk τ h => ∀ ρ' H' σ, Ev ρ H ρ' H' → HR Y ρ' H' h → Sl Y ρ' H' τ σ → D.bk σ H'
  | .ct τ h => ∀ ρ' H' σ, Ev ρ H ρ' H' → HR Y ρ' H' h → Sl Y ρ' H' τ σ → D.ct σ H'
  | .rt t h => ∀ ρ' H' v, Ev ρ H ρ' H' → HR Y ρ' H' h → Rp Y ρ' H' t v → D.rt v H'
  | .bad => False
def TMS (Y : Wd) (f : MS) : TS := fun D σ H => ∃ ρ τ h, Go Y ρ H τ σ h ∧ OutTo Y ρ H (f τ h) D

theorem To.ev {α β : Type} {Y : Wd} {R : Rh → Hp → α → β → Prop} {ρ ρ1 : Rh} {H H1 : Hp} {t : α} {h' : VH} {Q : β → Hp → Prop} (e : Ev ρ H ρ1 H1) (g : To Y R ρ H t h' Q) : To Y R ρ1 H1 t h' Q :=
  ⟨fun ρ' H' v e1 hr r => g.to ρ' H' v (e.trans e1) hr r⟩
theorem OutTo.ev {Y : Wd} {ρ ρ1 : Rh} {H H1 : Hp} {o : Out} {D : Ends} (e : Ev ρ H ρ1 H1) (g : OutTo Y ρ H o D) : OutTo Y ρ1 H1 o D := by
  cases o with
  | nx τ h => exact fun ρ' H' σ e1 => g ρ' H' σ (e.trans e1)
  | bk τ h => exact fun ρ' H' σ e1 => g ρ' H' σ (e.trans e1)
  | ct τ h => exact fun ρ' H' σ e1 => g ρ' H' σ (e.trans e1)
  | rt τ h => exact fun ρ' H' σ e1 => g ρ' H' σ (e.trans e1)
  | bad => exact g
theorem Go.ev {Y : Wd} {ρ ρ1 : Rh} {H H1 : Hp} {τ : TS_} {σ : St} {h h1 : VH} (g : Go Y ρ H τ σ h) (e : Ev ρ H ρ1 H1) (hr : HR Y ρ1 H1 h1) : Go Y ρ1 H1 τ σ h1 := ⟨g.sl.ev e.toEvR, hr⟩
theorem pe_imp {X : Cx} {e : Expr} {t t' : TE} (h : PE X e t) (i : ∀ σ H Q, t' σ H Q → t σ H Q) : PE X e t' := ⟨fun pins s σ H Q I q => h.run pins s σ H Q I (i _ _ _ q)⟩
theorem pt_imp {X : Cx} {e : Expr} {t t' : TT} (h : PT X e t) (i : ∀ σ H Q, t' σ H Q → t σ H Q) : PT X e t' := ⟨fun pins s σ H Q I q => h.run pins s σ H Q I (i _ _ _ q)⟩
theorem pa_imp {X : Cx} {e : List Expr} {t t' : TA} (h : PA X e t) (i : ∀ σ H Q, t' σ H Q → t σ H Q) : PA X e t' := ⟨fun pos pins s σ H Q I q => h.run pos pins s σ H Q I (i _ _ _ q)⟩
theorem ps_imp {X : Cx} {e : Stmt} {t t' : TS} (h : PS X e t) (i : ∀ D σ H, t' D σ H → t D σ H) : PS X e t' := ⟨fun pins s σ H D I q => h.run pins s σ H D I (i _ _ _ q)⟩
theorem pss_imp {X : Cx} {e : List Stmt} {t t' : TS} (h : PSs X e t) (i : ∀ D σ H, t' D σ H → t D σ H) : PSs X e t' := ⟨fun pins s σ H D I q => h.run pins s σ H D I (i _ _ _ q)⟩
end TL

set_option Elab.async false
set_option linter.all false
set_option maxRecDepth 100000
set_option maxHeartbeats 4000000
namespace TL
open PySem PySem.Spec L2
/-! ### reading the small heap -/
def listOf (h : VH) : T → Option (List T)
  | .lst ts => some ts
  | .ref n => match h[n]? with
    | some (.lst ts) => some ts
    | _ => none
  | _ => none
def tupOf : T → Option (List T)
  | .tup ts => some ts
  | _ => none
def seqOf (h : VH) : T → Option (List T)
  | .tup ts => some ts
  | .arg ts => some ts
  | t => listOf h t
theorem listOf_ok' {Y : Wd} {ρ : Rh} {H : Hp} {h : VH} {t : T} {v : V} {ts : List T} (r : Rp Y ρ H t v) (hr : HR Y ρ H h) (e : listOf h t = some ts) : ∃ a vs, v = .ref a ∧ H a = some (.lst vs) ∧ vs.length ≤ sizeLine ∧ Rps Y ρ H ts vs := by
  cases r with
  | lst la rs => simp only [listOf, Option.some.injEq] at e; subst e; exact ⟨_, _, rfl, la.2.2, la.1, rs⟩
  | @ref n a ha =>
    simp only [listOf] at e
    cases q : h[n]? with
    | none => rw [q] at e; cases e
    | some o =>
      rw [q] at e
      cases o with
      | lst us =>
        simp only [Option.some.injEq] at e; subst e
        obtain ⟨vs, h1, hz, h2⟩ := hr.at_ n _ a q ha
        exact ⟨_, vs, rfl, h1, hz, h2⟩
      | ins c fs => cases e
      | dct kvs => cases e
  | _ => cases e
theorem listOf_ok {Y : Wd} {ρ : Rh} {H : Hp} {h : VH} {t : T} {v : V} {ts : List T} (r : Rp Y ρ H t v) (hr : HR Y ρ H h) (e : listOf h t = some ts) : ∃ a vs, v = .ref a ∧ SqL Y.K H a vs ∧ vs.length ≤ sizeLine ∧ Rps Y ρ H ts vs :=
  let ⟨a, vs, e1, e2, e3, e4⟩ := listOf_ok' r hr e
  ⟨a, vs, e1, .inl (.inl e2), e3, e4⟩
theorem tupOf_ok {Y : Wd} {ρ : Rh} {H : Hp} {t : T} {v : V} {ts : List T} (r : Rp Y ρ H t v) (e : tupOf t = some ts) : ∃ a vs, v = .ref a ∧ SqT Y.K H a vs ∧ vs.length ≤ sizeLine ∧ Rps Y ρ H ts vs := by
  cases r with
  | tup la rs => simp only [tupOf, Option.some.injEq] at e; subst e; exact ⟨_, _, rfl, la.sq, la.1, rs⟩
  | _ => cases e
theorem seqOf_ok {Y : Wd} {ρ : Rh} {H : Hp} {h : VH} {t : T} {v : V} {ts : List T} (r : Rp Y ρ H t v) (hr : HR Y ρ H h) (e : seqOf h t = some ts) : ∃ a vs, v = .ref a ∧ (SqL Y.K H a vs ∨ SqT Y.K H a vs) ∧ vs.length ≤ sizeLine ∧ Rps Y ρ H ts vs := by
  cases r with
  | tup la rs => simp only [seqOf, Option.some.injEq] at e; subst e; exact ⟨_, _, rfl, .inr la.sq, la.1, rs⟩
  | arg la rs => simp only [seqOf, Option.some.injEq] at e; subst e; exact ⟨_, _, rfl, .inl la.sq, la.1, rs⟩
  | lst la rs =>
    obtain ⟨a, vs, e1, e2, e3, e4⟩ := listOf_ok (.lst la rs) hr (show listOf h _ = some ts from e)
    exact ⟨a, vs, e1, .inl e2, e3, e4⟩
  | ref ha =>
    obtain ⟨a, vs, e1, e2, e3, e4⟩ := listOf_ok (.ref ha) hr (show listOf h _ = some ts from e)
    exact ⟨a, vs, e1, .inl e2, e3, e4⟩
  | _ => cases e

/-! ### the steps -/
section
variable {X : Cx} {Y : Wd}
theorem tm_bind {f : ME} {g : T → VH → Res T} {σ : St} {H : Hp} {Q : VK} (q : TM Y (fun τ h => match f τ h with | .ok t h1 => g t h1 | .bad => .bad) σ H Q) :
    TM Y f σ H (fun x H1 => ∃ ρ1 h1 t u h', HR Y ρ1 H1 h1 ∧ Rp Y ρ1 H1 t x ∧ g t h1 = .ok u h' ∧ To Y (Rp Y) ρ1 H1 u h' Q) := by
  obtain ⟨ρ, τ, h, u, h', G, e, to⟩ := q
  cases e1 : f τ h with
  | bad => simp only [e1] at e; cases e
  | ok t h1 =>
    simp only [e1] at e
    exact ⟨ρ, τ, h, t, h1, G, e1, ⟨fun ρ1 H1 v ev hr r => ⟨ρ1, h1, t, u, h', hr, r, e, to.ev ev⟩⟩⟩
theorem tma_bind {f : MA} {g : List T → VH → Res T} {σ : St} {H : Hp} {Q : VK} (q : TM Y (fun τ h => match f τ h with | .ok t h1 => g t h1 | .bad => .bad) σ H Q) :
    TMA Y f σ H (fun x H1 => ∃ ρ1 h1 t u h', HR Y ρ1 H1 h1 ∧ Rps Y ρ1 H1 t x ∧ g t h1 = .ok u h' ∧ To Y (Rp Y) ρ1 H1 u h' Q) := by
  obtain ⟨ρ, τ, h, u, h', G, e, to⟩ := q
  cases e1 : f τ h with
  | bad => simp only [e1] at e; cases e
  | ok t h1 =>
    simp only [e1] at e
    exact ⟨ρ, τ, h, t, h1, G, e1, ⟨fun ρ1 H1 v ev hr r => ⟨ρ1, h1, t, u, h', hr, r, e, to.ev ev⟩⟩⟩

def eVar (i : Nat) : ME := fun τ h => match τ[i]? with
  | some (some t) => .ok t h
  | _ => .bad
def eK (t : T) : ME := fun _ h => .ok t h
theorem xVar (i : Nat) {x : Str} {pos : Pos} (hN : X.N[i]? = some x := by rfl) (hv : Vis X.env.scope x := by first | exact Or.inl rfl | exact Or.inr (Or.inl rfl) | exact Or.inr (Or.inr rfl)) (hd : (x == ("__debug__" : Str)) = false := by decide)
    (hcd : (x == ("__classdict__" : Str)) = false := by decide) : PE X (.Name x pos) (TM Y (eVar i)) := by
  refine pe_imp (pe_var (i := i) hN hv hd hcd) fun σ H Q q => ?_
  obtain ⟨ρ, τ, h, t, h', G, e, to⟩ := q
  unfold eVar at e
  split at e
  · rename_i t' et
    cases e
    obtain ⟨v, ev, r⟩ := G.sl.2 i t et
    exact ⟨v, ev, to.to ρ H v .refl G.hr r⟩
  · cases e
theorem tm_k {t : T} {v : V} (r : ∀ ρ H, Rp Y ρ H t v) (σ : St) (H : Hp) (Q : VK) (q : TM Y (eK t) σ H Q) : Q v H := by
  obtain ⟨ρ, τ, h, u, h', G, e, to⟩ := q
  cases e
  exact to.to ρ H v .refl G.hr (r ρ H)
theorem xInt {i : Int} {k : Nat} {pos : Pos} : PE X (.Constant (.int i) k pos) (TM Y (eK (.int i))) := pe_imp pe_int fun σ H Q q => tm_k (fun _ _ => .int i) σ H Q q
theorem xBl {b : Bool} {k : Nat} {pos : Pos} : PE X (.Constant (.bool b) k pos) (TM Y (eK (.bl b))) := pe_imp pe_bl fun σ H Q q => tm_k (fun _ _ => .bl b) σ H Q q
theorem xNon {k : Nat} {pos : Pos} : PE X (.Constant .none k pos) (TM Y (eK .non)) := pe_imp pe_non fun σ H Q q => tm_k (fun _ _ => .non) σ H Q q
theorem xStr {x : Str} {k : Nat} {pos : Pos} (hx : x.length ≤ 1000000 := by decide) : PE X (.Constant (.str x) k pos) (TM Y (eK (.str x))) := pe_imp pe_str fun σ H Q q => tm_k (fun _ _ => .str hx) σ H Q q

/-! ### argument lists -/
def aNil : MA := fun _ h => .ok [] h
def aCons (f : ME) (g : MA) : MA := fun τ h => match f τ h with
  | .ok t h1 => (match g τ h1 with
    | .ok ts h2 => .ok (t :: ts) h2
    | .bad => .bad)
  | .bad => .bad
theorem xaNil : PA X [] (TMA Y aNil) := pa_imp pa_nil fun σ H Q q => by
  obtain ⟨ρ, τ, h, u, h', G, e, to⟩ := q
  cases e
  exact to.to ρ H [] .refl G.hr .nil
theorem xaCons {e : Expr} {es : List Expr} {f : ME} {g : MA} (ha : PE X e (TM Y f)) (hr : PA X es (TMA Y g)) (hs : starEach (e :: es) X.env = (false, eval e X.env) :: starEach es X.env := by rfl) : PA X (e :: es) (TMA Y (aCons f g)) := by
  refine pa_imp (pa_cons ha hr hs) fun σ H Q q => ?_
  obtain ⟨ρ, τ, h, u, h', G, e, to⟩ := q
  unfold aCons at e
  cases e1 : f τ h with
  | bad => simp only [e1] at e; cases e
  | ok t h1 =>
    simp only [e1] at e
    refine ⟨ρ, τ, h, t, h1, G, e1, ⟨fun ρ1 H1 v ev hr1 r => ?_⟩⟩
    cases e2 : g τ h1 with
    | bad => simp only [e2] at e; cases e
    | ok ts h2 =>
      simp only [e2] at e
      cases e
      exact ⟨ρ1, τ, h1, _, _, G.ev ev hr1, e2, ⟨fun ρ2 H2 vs ev2 hr2 rs => to.to ρ2 H2 (v :: vs) (ev.trans ev2) hr2 (.cons (r.ev ev2.toEvR) rs)⟩⟩

/-! ### displays -/
/-- a new list -/
def TMF (Y : Wd) (f : MA) : TE := fun σ H Q => ∃ ρ τ h ts h', Go Y ρ H τ σ h ∧ f τ h = .ok ts h' ∧
  ∀ ρ' H' D vs, Ev ρ H ρ' H' → HR Y ρ' H' h' → H D = none → LstAt Y ρ' H' D vs → Rps Y ρ' H' ts vs → HR Y (ρ'.push D) H' (h' ++ [.lst ts]) → Q (.ref D) H'
def eL (f : MA) : ME := fun τ h => match f τ h with
  | .ok ts h' => .ok (.lst ts) h'
  | .bad => .bad
def eH (f : MA) : ME := fun τ h => match f τ h with
  | .ok ts h' => .ok (.ref h'.length) (h' ++ [.lst ts])
  | .bad => .bad
theorem xL {e : Expr} {f : MA} (h : PE X e (TMF Y f)) : PE X e (TM Y (eL f)) := pe_imp h fun σ H Q q => by
  obtain ⟨ρ, τ, h, u, h', G, e, to⟩ := q
  unfold eL at e
  cases e1 : f τ h with
  | bad => simp only [e1] at e; cases e
  | ok ts h1 =>
    simp only [e1] at e
    cases e
    exact ⟨ρ, τ, h, ts, _, G, e1, fun ρ' H' D vs ev hr hD la rs _ => to.to ρ' H' _ ev hr (.lst la rs)⟩
theorem xH {e : Expr} {f : MA} (h : PE X e (TMF Y f)) : PE X e (TM Y (eH f)) := pe_imp h fun σ H Q q => by
  obtain ⟨ρ, τ, h, u, h', G, e, to⟩ := q
  unfold eH at e
  cases e1 : f τ h with
  | bad => simp only [e1] at e; cases e
  | ok ts h1 =>
    simp only [e1] at e
    cases e
    refine ⟨ρ, τ, h, ts, h1, G, e1, fun ρ' H' D vs ev hr hD la rs hp => to.to (ρ'.push D) H' _ (.mk' ?_ ev.bn ev.keep ev.there) hp (.ref ?_)⟩
    · obtain ⟨m, em, hm⟩ := ev.more
      refine ⟨m ++ [D], by simp [Rh.push, em], fun p hp => ?_⟩
      rcases List.mem_append.mp hp with z | z
      · exact hm p z
      · rw [List.mem_singleton.mp z]; exact hD
    · show (ρ'.ix ++ [D])[_]? = _
      rw [List.getElem?_append_right (by rw [hr.len]; exact Nat.le_refl _), hr.len]
      simp
theorem newL {Y : Wd} {ρ : Rh} {H : Hp} {h : VH} {ts : List T} {vs : List V} {D : Addr} (hr : HR Y ρ H h) (rs : Rps Y ρ H ts vs) (hz : vs.length ≤ sizeLine) (hD : H D = none) :
    HR Y ρ (upd H D (.lst vs)) h ∧ LstAt Y ρ (upd H D (.lst vs)) D vs ∧ Rps Y ρ (upd H D (.lst vs)) ts vs ∧ HR Y (ρ.push D) (upd H D (.lst vs)) (h ++ [.lst ts]) :=
  ⟨hr.new hD, ⟨hz, hr.outof hD, upd_same⟩, rs.ev (Ev.new hD).toEvR, hr.push hD ⟨vs, upd_same, hz, rs.ev (Ev.newρ hD).toEvR⟩⟩
def aLim (f : MA) : MA := fun τ h => match f τ h with
  | .ok ts h' => if ts.length ≤ 16777216 then .ok ts h' else .bad
  | .bad => .bad
theorem xLst {es : List Expr} {g : MA} {pos : Pos} (ha : PA X es (TMA Y g)) : PE X (.List es pos) (TMF Y (aLim g)) := pe_imp (pe_lst ha) fun σ H Q q => by
  obtain ⟨ρ, τ, h, u, h', G, e, to⟩ := q
  unfold aLim at e
  cases e1 : g τ h with
  | bad => simp only [e1] at e; cases e
  | ok ts h1 =>
    simp only [e1] at e
    split at e
    · rename_i hl
      cases e
      refine ⟨ρ, τ, h, _, _, G, e1, ⟨fun ρ1 H1 vs ev hr rs => ⟨by rw [rs.length, sizeLine_eq]; exact hl, fun p hp => ?_⟩⟩⟩
      obtain ⟨n1, n2, n3, n4⟩ := newL hr rs (by rw [rs.length, sizeLine_eq]; exact hl) hp
      refine to ρ1 _ p vs (ev.trans (Ev.new hp)) n1 ?_ n2 n3 n4
      exact ev.fresh hp
    · cases e
def eTup (g : MA) : ME := fun τ h => match g τ h with
  | .ok ts h' => if ts.length ≤ 16777216 then .ok (.tup ts) h' else .bad
  | .bad => .bad
theorem newT {Y : Wd} {ρ : Rh} {H : Hp} {h : VH} {ts : List T} {vs : List V} {D : Addr} (hr : HR Y ρ H h) (rs : Rps Y ρ H ts vs) (hz : vs.length ≤ sizeLine) (hD : H D = none) :
    HR Y ρ (upd H D (.tup vs)) h ∧ Rp Y ρ (upd H D (.tup vs)) (.tup ts) (.ref D) :=
  ⟨hr.new hD, .tup ⟨hz, .inl ⟨hr.outof hD, .inl upd_same⟩⟩ (rs.ev (Ev.new hD).toEvR)⟩
theorem xTup {es : List Expr} {g : MA} {pos : Pos} {x1} (ha : PA X es (TMA Y g)) : PE X (.Tuple es x1 pos) (TM Y (eTup g)) := pe_imp (pe_tup ha) fun σ H Q q => by
  obtain ⟨ρ, τ, h, u, h', G, e, to⟩ := q
  unfold eTup at e
  cases e1 : g τ h with
  | bad => simp only [e1] at e; cases e
  | ok ts h1 =>
    simp only [e1] at e
    split at e
    · rename_i hl
      cases e
      refine ⟨ρ, τ, h, _, _, G, e1, ⟨fun ρ1 H1 vs ev hr rs => ⟨by rw [rs.length, sizeLine_eq]; exact hl, fun p hp => ?_⟩⟩⟩
      obtain ⟨n1, n2⟩ := newT hr rs (by rw [rs.length, sizeLine_eq]; exact hl) hp
      exact to.to ρ1 _ _ (ev.trans (Ev.new hp)) n1 n2
    · cases e

/-! ### calls by values -/
/-- a reading of arguments' values keeps what b says -/
def CT (Y : Wd) (r : List V → Hp → VK → Prop) (b : List T → VH → Res T) : Prop := ∀ ρ H ts vs h t h' Q, Rps Y ρ H ts vs → HR Y ρ H h → b ts h = .ok t h' → To Y (Rp Y) ρ H t h' Q → r vs H Q
def eCall (b : List T → VH → Res T) (g : MA) : ME := fun τ h => match g τ h with
  | .ok ts h1 => b ts h1
  | .bad => .bad
theorem tm_call {r : List V → Hp → VK → Prop} {b : List T → VH → Res T} (ct : CT Y r b) {g : MA} {σ : St} {H : Hp} {Q : VK} (q : TM Y (eCall b g) σ H Q) : TMA Y g σ H fun vs H1 => r vs H1 Q := by
  obtain ⟨ρ, τ, h, t, h1, G, e, to⟩ := tma_bind (show TM Y (fun τ h => match g τ h with | .ok t h1 => b t h1 | .bad => .bad) σ H Q from q)
  refine ⟨ρ, τ, h, t, h1, G, e, ⟨fun ρ1 H1 v ev hr rs => ?_⟩⟩
  obtain ⟨ρ2, h2, t2, u, h3, hr2, rs2, e2, to2⟩ := to.to ρ1 H1 v ev hr rs
  exact ct ρ2 H1 t2 v h2 u h3 Q rs2 hr2 e2 to2
/-- a two-place operation -/
def OT (Y : Wd) (r : R2) (b : T → T → VH → Res T) : Prop := ∀ ρ H t1 t2 v1 v2 h t h' Q, Rp Y ρ H t1 v1 → Rp Y ρ H t2 v2 → HR Y ρ H h → b t1 t2 h = .ok t h' → To Y (Rp Y) ρ H t h' Q → r v1 v2 H Q
def eOp (b : T → T → VH → Res T) (f g : ME) : ME := fun τ h => match f τ h with
  | .ok t h1 => (match g τ h1 with
    | .ok u h2 => b t u h2
    | .bad => .bad)
  | .bad => .bad
theorem tm_op {r : R2} {b : T → T → VH → Res T} (ot : OT Y r b) {f g : ME} {σ : St} {H : Hp} {Q : VK} (q : TM Y (eOp b f g) σ H Q) : TM Y f σ H fun x H1 => TM Y g σ H1 fun y H2 => r x y H2 Q := by
  obtain ⟨ρ, τ, h, u, h', G, e, to⟩ := q
  unfold eOp at e
  cases e1 : f τ h with
  | bad => simp only [e1] at e; cases e
  | ok t h1 =>
    simp only [e1] at e
    refine ⟨ρ, τ, h, t, h1, G, e1, ⟨fun ρ1 H1 v ev hr1 r1 => ?_⟩⟩
    cases e2 : g τ h1 with
    | bad => simp only [e2] at e; cases e
    | ok s h2 =>
      simp only [e2] at e
      exact ⟨ρ1, τ, h1, s, h2, G.ev ev hr1, e2, ⟨fun ρ2 H2 w ev2 hr2 r2 => ot ρ2 H2 t s v w h2 u h' Q (r1.ev ev2.toEvR) r2 hr2 e (to.ev (ev.trans ev2))⟩⟩
theorem xOp {op : Operator} {r : R2} {b : T → T → VH → Res T} (ot : OT Y r b) {a c : Expr} {f g : ME} {pos : Pos} (ho : OpR X (binaryOp op) r) (ha : PE X a (TM Y f)) (hb : PE X c (TM Y g)) : PE X (.BinOp a op c pos) (TM Y (eOp b f g)) :=
  pe_imp (pe_op ho ha hb) fun σ H Q q => tm_op ot q
theorem xCmp {op : CmpOp} {r : R2} {b : T → T → VH → Res T} (ot : OT Y r b) {a c : Expr} {f g : ME} {pos : Pos} (ho : OpR X (compareOp op) r) (ha : PE X a (TM Y f)) (hb : PE X c (TM Y g)) (hm : behindInMarks op c = false := by first | exact nomark _ | rfl) : PE X (.Compare a [op] [c] pos) (TM Y (eOp b f g)) :=
  pe_imp (pe_cmpR ho ha hb hm) fun σ H Q q => tm_op ot q
theorem xCallB {id : String} {x : Str} {r : List V → Hp → VK → Prop} {b : List T → VH → Res T} (ct : CT Y r b) {e : Expr} {es : List Expr} {g : MA} {p pos : Pos} (hc : CallR X (.builtin id) r) (hg : Gl X x) (hm : X.mg x = none) (hv : bootBuiltins x = some (.builtin id)) (ha : PA X (e :: es) (TMA Y g)) (hn : x ≠ "__name__" := by decide) (hdb : (x == ("__debug__" : Str)) = false := by decide)
    (he : starEach (e :: es) X.env = (false, eval e X.env) :: starEach es X.env := by rfl) (hpl : (backTo pos (starEach es X.env)).any (·.1) = false := by rfl) :
    PE X (.Call (.Name x p) (e :: es) [] pos) (TM Y (eCall b g)) := pe_imp (pe_callB hc hg hm hv ha hn hdb he hpl) fun σ H Q q => tm_call ct q
theorem xCallTy {T' : String} {x : Str} {r : List V → Hp → VK → Prop} {b : List T → VH → Res T} (ct : CT Y r b) {e : Expr} {es : List Expr} {g : MA} {p pos : Pos} (hc : CallR X (.type T') r) (hg : Gl X x) (hm : X.mg x = none) (hv : bootBuiltins x = some (.type T')) (ha : PA X (e :: es) (TMA Y g)) (hn : x ≠ "__name__" := by decide) (hdb : (x == ("__debug__" : Str)) = false := by decide)
    (he : starEach (e :: es) X.env = (false, eval e X.env) :: starEach es X.env := by rfl) (hpl : (backTo pos (starEach es X.env)).any (·.1) = false := by rfl) :
    PE X (.Call (.Name x p) (e :: es) [] pos) (TM Y (eCall b g)) := pe_imp (pe_callTy hc hg hm hv ha hn hdb he hpl) fun σ H Q q => tm_call ct q

/-! ### tests -/
/-- a value's truth -/
def truth (h : VH) : T → Option Bool
  | .non => some false
  | .bl b => some b
  | .int i => some (i != 0)
  | .str x => some (x.length != 0)
  | .tup ts => some (!ts.isEmpty)
  | .lst ts => some (!ts.isEmpty)
  | .ref n => match h[n]? with
    | some (.lst ts) => some (!ts.isEmpty)
    | _ => none
  | _ => none
def bTest (f : ME) : MB := fun τ h => match f τ h with
  | .ok (.bl b) h1 => .ok b h1
  | _ => .bad
theorem xtVal {e : Expr} {f : ME} (h : PE X e (TM Y f)) (he : ∀ whole, isTrue e X.env whole = (do let v ← whole; standAt e.pos; holding [v] (truthy v)) := by intro _; rfl) : PT X e (TMB Y (bTest f)) := pt_imp (pt_val h he) fun σ H Q q => by
  obtain ⟨ρ, τ, h, u, h', G, e, to⟩ := q
  unfold bTest at e
  split at e
  · rename_i b h1 e1
    cases e
    refine ⟨ρ, τ, h, _, _, G, e1, ⟨fun ρ1 H1 v ev hr r => ?_⟩⟩
    cases r
    exact ⟨_, rfl, to.to ρ1 H1 _ ev hr rfl⟩
  · cases e
theorem xtCmp {op : CmpOp} {r : R2} {b : T → T → VH → Res T} (ot : OT Y r b) {a c : Expr} {f g : ME} {pos : Pos} (ho : OpR X (compareOp op) r) (ha : PE X a (TM Y f)) (hb : PE X c (TM Y g)) (hm : behindInMarks op c = false := by first | exact nomark _ | rfl) : PT X (.Compare a [op] [c] pos) (TMB Y (bTest (eOp b f g))) :=
  pt_imp (pt_cmpR ho ha hb hm) fun σ H Q q => by
    obtain ⟨ρ, τ, h, u, h', G, e, to⟩ := q
    refine tm_op ot (Q := fun x H' => ∃ k, x = .bl k ∧ Q k H') ?_
    unfold bTest at e
    split at e
    · rename_i b h1 e1
      cases e
      refine ⟨ρ, τ, h, _, _, G, e1, ⟨fun ρ1 H1 v ev hr r => ?_⟩⟩
      cases r
      exact ⟨_, rfl, to.to ρ1 H1 _ ev hr rfl⟩
    · cases e
def bAnd (c d : MB) : MB := fun τ h => match c τ h with
  | .ok true h1 => d τ h1
  | .ok false h1 => .ok false h1
  | .bad => .bad
def bOr (c d : MB) : MB := fun τ h => match c τ h with
  | .ok true h1 => .ok true h1
  | .ok false h1 => d τ h1
  | .bad => .bad
def bNot (c : MB) : MB := fun τ h => match c τ h with
  | .ok b h1 => .ok (!b) h1
  | .bad => .bad
theorem pw_imp {e : Expr} {t t' : TT} (h : PW X e t) (i : ∀ σ H Q, t' σ H Q → t σ H Q) : PW X e t' := ⟨fun wh pins s σ H Q I q => h.run wh pins s σ H Q I (i _ _ _ q)⟩
theorem xwAnd1 {a : Expr} {c : MB} {pos : Pos} (h : PT X a (TMB Y c)) : PW X (.BoolOp .And [a] pos) (TMB Y c) := pw_and1 h
theorem xwOr1 {a : Expr} {c : MB} {pos : Pos} (h : PT X a (TMB Y c)) : PW X (.BoolOp .Or [a] pos) (TMB Y c) := pw_or1 h
theorem xwAnd {a b : Expr} {rest : List Expr} {c d : MB} {pos : Pos} (ha : PT X a (TMB Y c)) (hb : PW X (.BoolOp .And (b :: rest) pos) (TMB Y d)) : PW X (.BoolOp .And (a :: b :: rest) pos) (TMB Y (bAnd c d)) := pw_imp (pw_and ha hb) fun σ H Q q => by
  obtain ⟨ρ, τ, h, u, h', G, e, to⟩ := q
  unfold bAnd at e
  split at e
  · rename_i h1 e1
    exact ⟨ρ, τ, h, true, h1, G, e1, ⟨fun ρ1 H1 k ev hr ek => by subst ek; exact iteT ⟨ρ1, τ, h1, u, h', G.ev ev hr, e, to.ev ev⟩⟩⟩
  · rename_i h1 e1
    cases e
    exact ⟨ρ, τ, h, false, _, G, e1, ⟨fun ρ1 H1 k ev hr ek => by subst ek; exact iteF (to.to ρ1 H1 false ev hr rfl)⟩⟩
  · cases e
theorem xwOr {a b : Expr} {rest : List Expr} {c d : MB} {pos : Pos} (ha : PT X a (TMB Y c)) (hb : PW X (.BoolOp .Or (b :: rest) pos) (TMB Y d)) : PW X (.BoolOp .Or (a :: b :: rest) pos) (TMB Y (bOr c d)) := pw_imp (pw_or ha hb) fun σ H Q q => by
  obtain ⟨ρ, τ, h, u, h', G, e, to⟩ := q
  unfold bOr at e
  split at e
  · rename_i h1 e1
    cases e
    exact ⟨ρ, τ, h, true, _, G, e1, ⟨fun ρ1 H1 k ev hr ek => by subst ek; exact iteT (to.to ρ1 H1 true ev hr rfl)⟩⟩
  · rename_i h1 e1
    exact ⟨ρ, τ, h, false, h1, G, e1, ⟨fun ρ1 H1 k ev hr ek => by subst ek; exact iteF ⟨ρ1, τ, h1, u, h', G.ev ev hr, e, to.ev ev⟩⟩⟩
  · cases e
theorem xtW {e : Expr} {c : MB} (h : PW X e (TMB Y c)) : PT X e (TMB Y c) := h.pt
theorem xtNot {a : Expr} {c : MB} {pos : Pos} (h : PT X a (TMB Y c)) : PT X (.UnaryOp .Not a pos) (TMB Y (bNot c)) := pt_imp (pt_not h) fun σ H Q q => by
  obtain ⟨ρ, τ, h, u, h', G, e, to⟩ := q
  unfold bNot at e
  split at e
  · rename_i b h1 e1
    cases e
    exact ⟨ρ, τ, h, b, _, G, e1, ⟨fun ρ1 H1 k ev hr ek => by subst ek; exact to.to ρ1 H1 _ ev hr rfl⟩⟩
  · cases e
def eIf (c : MB) (f g : ME) : ME := fun τ h => match c τ h with
  | .ok true h1 => f τ h1
  | .ok false h1 => g τ h1
  | .bad => .bad
theorem xIf {c a b : Expr} {m : MB} {f g : ME} {pos : Pos} (hc : PT X c (TMB Y m)) (ha : PE X a (TM Y f)) (hb : PE X b (TM Y g)) : PE X (.IfExp c a b pos) (TM Y (eIf m f g)) := pe_imp (pe_ifExp hc ha hb) fun σ H Q q => by
  obtain ⟨ρ, τ, h, u, h', G, e, to⟩ := q
  unfold eIf at e
  split at e
  · rename_i h1 e1
    exact ⟨ρ, τ, h, true, h1, G, e1, ⟨fun ρ1 H1 k ev hr ek => by subst ek; exact iteT ⟨ρ1, τ, h1, u, h', G.ev ev hr, e, to.ev ev⟩⟩⟩
  · rename_i h1 e1
    exact ⟨ρ, τ, h, false, h1, G, e1, ⟨fun ρ1 H1 k ev hr ek => by subst ek; exact iteF ⟨ρ1, τ, h1, u, h', G.ev ev hr, e, to.ev ev⟩⟩⟩
  · cases e
/-! ### and, or, not as values: bools -/
def eAnd (f g : ME) : ME := fun τ h => match f τ h with
  | .ok (.bl true) h1 => g τ h1
  | .ok (.bl false) h1 => .ok (.bl false) h1
  | _ => .bad
def eOr (f g : ME) : ME := fun τ h => match f τ h with
  | .ok (.bl true) h1 => .ok (.bl true) h1
  | .ok (.bl false) h1 => g τ h1
  | _ => .bad
def eNot (f : ME) : ME := fun τ h => match f τ h with
  | .ok (.bl b) h1 => .ok (.bl (!b)) h1
  | _ => .bad
theorem xOne {op : BoolOp} {a : Expr} {f : ME} {pos : Pos} (h : PE X a (TM Y f)) : PE X (.BoolOp op [a] pos) (TM Y f) := pe_one h
theorem xAnd {a b : Expr} {rest : List Expr} {f g : ME} {pos : Pos} (ha : PE X a (TM Y f)) (hb : PE X (.BoolOp .And (b :: rest) pos) (TM Y g)) : PE X (.BoolOp .And (a :: b :: rest) pos) (TM Y (eAnd f g)) := pe_imp (pe_and ha hb) fun σ H Q q => by
  obtain ⟨ρ, τ, h, u, h', G, e, to⟩ := q
  unfold eAnd at e
  split at e
  · rename_i h1 e1
    exact ⟨ρ, τ, h, _, h1, G, e1, ⟨fun ρ1 H1 v ev hr r => by cases r; exact ⟨true, rfl, iteT ⟨ρ1, τ, h1, u, h', G.ev ev hr, e, to.ev ev⟩⟩⟩⟩
  · rename_i h1 e1
    cases e
    exact ⟨ρ, τ, h, _, _, G, e1, ⟨fun ρ1 H1 v ev hr r => by cases r; exact ⟨false, rfl, iteF (to.to ρ1 H1 _ ev hr (.bl false))⟩⟩⟩
  · cases e
theorem xOr {a b : Expr} {rest : List Expr} {f g : ME} {pos : Pos} (ha : PE X a (TM Y f)) (hb : PE X (.BoolOp .Or (b :: rest) pos) (TM Y g)) : PE X (.BoolOp .Or (a :: b :: rest) pos) (TM Y (eOr f g)) := pe_imp (pe_or ha hb) fun σ H Q q => by
  obtain ⟨ρ, τ, h, u, h', G, e, to⟩ := q
  unfold eOr at e
  split at e
  · rename_i h1 e1
    cases e
    exact ⟨ρ, τ, h, _, _, G, e1, ⟨fun ρ1 H1 v ev hr r => by cases r; exact ⟨true, rfl, iteT (to.to ρ1 H1 _ ev hr (.bl true))⟩⟩⟩
  · rename_i h1 e1
    exact ⟨ρ, τ, h, _, h1, G, e1, ⟨fun ρ1 H1 v ev hr r => by cases r; exact ⟨false, rfl, iteF ⟨ρ1, τ, h1, u, h', G.ev ev hr, e, to.ev ev⟩⟩⟩⟩
  · cases e
theorem xNot {a : Expr} {f : ME} {pos : Pos} (h : PE X a (TM Y f)) : PE X (.UnaryOp .Not a pos) (TM Y (eNot f)) := pe_imp (pe_not h) fun σ H Q q => by
  obtain ⟨ρ, τ, h, u, h', G, e, to⟩ := q
  unfold eNot at e
  split at e
  · rename_i b h1 e1
    cases e
    exact ⟨ρ, τ, h, _, _, G, e1, ⟨fun ρ1 H1 v ev hr r => by cases r; exact ⟨b, rfl, to.to ρ1 H1 _ ev hr (.bl _)⟩⟩⟩
  · cases e
end
end TL

set_option Elab.async false
set_option linter.all false
set_option maxRecDepth 100000
set_option maxHeartbeats 4000000
namespace TL
open PySem PySem.Spec L2
section
variable {X : Cx} {Y : Wd}
/-! ### statements -/
def sNil : MS := fun τ h => .nx τ h
def sSeq (f g : MS) : MS := fun τ h => match f τ h with
  | .nx τ' h' => g τ' h'
  | o => o
theorem xsNil : PSs X [] (TMS Y sNil) := pss_imp pss_nil fun D σ H q => by
  obtain ⟨ρ, τ, h, G, to⟩ := q
  exact to ρ H σ .refl G.hr G.sl
theorem xsCons {st : Stmt} {rest : List Stmt} {f g : MS} (h1 : PS X st (TMS Y f)) (h2 : PSs X rest (TMS Y g)) : PSs X (st :: rest) (TMS Y (sSeq f g)) := pss_imp (pss_cons h1 h2) fun D σ H q => by
  obtain ⟨ρ, τ, h, G, to⟩ := q
  refine ⟨ρ, τ, h, G, ?_⟩
  unfold sSeq at to
  cases e : f τ h with
  | nx τ' h' =>
    rw [e] at to
    exact fun ρ' H' σ' ev hr sl => ⟨ρ', τ', h', ⟨sl, hr⟩, OutTo.ev ev to⟩
  | rt t h' => rw [e] at to; exact to
  | bk τ' h' => rw [e] at to; exact to
  | ct τ' h' => rw [e] at to; exact to
  | bad => rw [e] at to; exact to
theorem xsOne {st : Stmt} {f : MS} (h1 : PS X st (TMS Y f)) : PSs X [st] (TMS Y f) := pss_one h1
def sRet (f : ME) : MS := fun τ h => match f τ h with
  | .ok t h' => .rt t h'
  | .bad => .bad
theorem xsRet {e : Expr} {f : ME} {pos : Pos} (he : PE X e (TM Y f)) : PS X (.Return (some e) pos) (TMS Y (sRet f)) := ps_imp (ps_ret he) fun D σ H q => by
  obtain ⟨ρ, τ, h, G, to⟩ := q
  unfold sRet at to
  cases e : f τ h with
  | bad => simp only [e] at to; exact to.elim
  | ok t h' => simp only [e] at to; exact ⟨ρ, τ, h, t, h', G, e, ⟨fun ρ' H' v ev hr r => to ρ' H' v ev hr r⟩⟩
def sExpr (f : ME) : MS := fun τ h => match f τ h with
  | .ok _ h' => .nx τ h'
  | .bad => .bad
theorem xsExpr {e : Expr} {f : ME} {pos : Pos} (he : PE X e (TM Y f)) (hs : swapsWith e none pos.line X.env = pure false := by rfl) : PS X (.Expr e pos) (TMS Y (sExpr f)) := ps_imp (ps_expr he hs) fun D σ H q => by
  obtain ⟨ρ, τ, h, G, to⟩ := q
  unfold sExpr at to
  cases e : f τ h with
  | bad => simp only [e] at to; exact to.elim
  | ok t h' => simp only [e] at to; exact ⟨ρ, τ, h, t, h', G, e, ⟨fun ρ' H' v ev hr r => to ρ' H' σ ev hr (G.sl.ev ev.toEvR)⟩⟩
theorem xsPass {pos : Pos} : PS X (.Pass pos) (TMS Y sNil) := ps_imp ps_pass fun D σ H q => by
  obtain ⟨ρ, τ, h, G, to⟩ := q
  exact to ρ H σ .refl G.hr G.sl
def sBad : MS := fun _ _ => .bad
theorem xsBad {st : Stmt} : PS X st (TMS Y sBad) := ps_imp ps_never fun D σ H q => by
  obtain ⟨ρ, τ, h, G, to⟩ := q
  exact to.elim
def sBrk : MS := fun τ h => .bk τ h
def sCont : MS := fun τ h => .ct τ h
theorem xsBrk {pos : Pos} : PS X (.Break pos) (TMS Y sBrk) := ps_imp ps_break fun D σ H q => by
  obtain ⟨ρ, τ, h, G, to⟩ := q
  exact to ρ H σ .refl G.hr G.sl
theorem xsCont {pos : Pos} : PS X (.Continue pos) (TMS Y sCont) := ps_imp ps_continue fun D σ H q => by
  obtain ⟨ρ, τ, h, G, to⟩ := q
  exact to ρ H σ .refl G.hr G.sl
def sIf (c : MB) (f g : MS) : MS := fun τ h => match c τ h with
  | .ok true h1 => f τ h1
  | .ok false h1 => g τ h1
  | .bad => .bad
theorem xsIf {c : Expr} {a b : List Stmt} {m : MB} {f g : MS} {pos : Pos} (hc : PT X c (TMB Y m)) (ha : PSs X a (TMS Y f)) (hb : PSs X b (TMS Y g)) : PS X (.If c a b pos) (TMS Y (sIf m f g)) := ps_imp (ps_if hc ha hb) fun D σ H q => by
  obtain ⟨ρ, τ, h, G, to⟩ := q
  unfold sIf at to
  split at to
  · rename_i h1 e1
    exact ⟨ρ, τ, h, true, h1, G, e1, ⟨fun ρ1 H1 k ev hr ek => by subst ek; exact iteT ⟨ρ1, τ, h1, G.ev ev hr, to.ev ev⟩⟩⟩
  · rename_i h1 e1
    exact ⟨ρ, τ, h, false, h1, G, e1, ⟨fun ρ1 H1 k ev hr ek => by subst ek; exact iteF ⟨ρ1, τ, h1, G.ev ev hr, to.ev ev⟩⟩⟩
  · exact to.elim

/-! ### targets -/
abbrev MG := T → TS_ → VH → Res TS_
abbrev MGs := List T → TS_ → VH → Res TS_
def TMG (Y : Wd) (g : MG) : TG := fun v σ H Q => ∃ ρ τ h t τ' h', Go Y ρ H τ σ h ∧ Rp Y ρ H t v ∧ g t τ h = .ok τ' h' ∧ ∀ ρ' H' σ', Ev ρ H ρ' H' → HR Y ρ' H' h' → Sl Y ρ' H' τ' σ' → Q σ' H'
def TMGs (Y : Wd) (g : MGs) : TGs := fun v σ H Q => ∃ ρ τ h t τ' h', Go Y ρ H τ σ h ∧ Rps Y ρ H t v ∧ g t τ h = .ok τ' h' ∧ ∀ ρ' H' σ', Ev ρ H ρ' H' → HR Y ρ' H' h' → Sl Y ρ' H' τ' σ' → Q σ' H'
theorem pg_imp {e : Expr} {t t' : TG} (h : PG X e t) (i : ∀ v σ H Q, t' v σ H Q → t v σ H Q) : PG X e t' := ⟨fun pins s σ H v u Q I r q => h.run pins s σ H v u Q I r (i _ _ _ _ q)⟩
theorem pgs_imp {e : List Expr} {t t' : TGs} (h : PGs X e t) (i : ∀ v σ H Q, t' v σ H Q → t v σ H Q) : PGs X e t' := ⟨fun pins s σ H v u Q I r q => h.run pins s σ H v u Q I r (i _ _ _ _ q)⟩
def mgName (i : Nat) : MG := fun t τ h => .ok (τ.set i (some t)) h
theorem xgName {i : Nat} {x : Str} {pos : Pos} (hN : X.N.Nodup) (hi : X.N[i]? = some x) (hx : Loc X.env.scope x) (hf : X.fn x = true ∨ X.env.scope.names.lookup x = some .local := by first | exact .inl rfl | exact .inr rfl | assumption) : PG X (.Name x pos) (TMG Y (mgName i)) :=
  pg_imp (pg_name hN hi hx hf) fun v σ H Q q => by
    obtain ⟨ρ, τ, h, t, τ', h', G, r, e, to⟩ := q
    cases e
    exact to ρ H _ .refl G.hr (G.sl.set i r)
def mgsNil : MGs := fun ts τ h => match ts with
  | [] => .ok τ h
  | _ => .bad
def mgsCons (g : MG) (gs : MGs) : MGs := fun ts τ h => match ts with
  | t :: r => (match g t τ h with
    | .ok τ' h' => gs r τ' h'
    | .bad => .bad)
  | _ => .bad
theorem xgsNil : PGs X [] (TMGs Y mgsNil) := pgs_imp pgs_nil fun v σ H Q q => by
  obtain ⟨ρ, τ, h, t, τ', h', G, r, e, to⟩ := q
  cases r with
  | nil => cases e; exact ⟨rfl, to ρ H _ .refl G.hr G.sl⟩
  | cons a b => cases e
theorem xgsCons {e : Expr} {es : List Expr} {g : MG} {gs : MGs} (h1 : PG X e (TMG Y g)) (h2 : PGs X es (TMGs Y gs)) (hs : (assignEach (e :: es) X.env).map (·.2) = assign e X.env :: (assignEach es X.env).map (·.2) := by rfl) : PGs X (e :: es) (TMGs Y (mgsCons g gs)) :=
  pgs_imp (pgs_cons h1 h2 hs) fun v σ H Q q => by
    obtain ⟨ρ, τ, h, t, τ', h', G, r, e, to⟩ := q
    cases r with
    | nil => cases e
    | cons a b =>
      unfold mgsCons at e
      dsimp only at e
      split at e
      · rename_i τ1 h1 e1
        exact ⟨_, _, rfl, ρ, τ, h, _, τ1, h1, G, a, e1, fun ρ1 H1 σ1 ev hr sl => ⟨ρ1, τ1, h1, _, τ', h', ⟨sl, hr⟩, b.ev ev.toEvR, e, fun ρ2 H2 σ2 ev2 => to ρ2 H2 σ2 (ev.trans ev2)⟩⟩
      · cases e
def mgTup (n : Nat) (gs : MGs) : MG := fun t τ h => match t with
  | .tup ts => if ts.length = n then gs ts τ h else .bad
  | _ => .bad
theorem xgTup {es : List Expr} {k : Nat} {gs : MGs} {n : Nat} {pos : Pos} (hc : X.calm = true) (hK : X.K = Y.K) (h : PGs X es (TMGs Y gs)) (hn : (assignEach es X.env).length = n := by rfl) (hst : (assignEach es X.env).findIdx? (·.1) = none := by rfl) : PG X (.Tuple es k pos) (TMG Y (mgTup n gs)) :=
  pg_imp (pg_tup hc h hn hst) fun v σ H Q q => by
    obtain ⟨ρ, τ, h, t, τ', h', G, r, e, to⟩ := q
    unfold mgTup at e
    split at e
    · split at e
      · rename_i ts hl
        cases r with
        | tup ta rs => exact ⟨_, _, rfl, by rw [hK]; exact ta.sq, by rw [rs.length]; exact hl, ρ, τ, h, ts, τ', h', G, rs, e, to⟩
      · cases e
    · cases e
/-- o[i] = v, by values -/
def ST (Y : Wd) (r : TSet) (b : T → T → T → VH → Res Unit) : Prop := ∀ ρ H o i t vo vi v h h' Q, Rp Y ρ H o vo → Rp Y ρ H i vi → Rp Y ρ H t v → HR Y ρ H h → b o i t h = .ok () h' → (∀ ρ' H', Ev ρ H ρ' H' → HR Y ρ' H' h' → Q H') → r vo vi v H Q
def mgSub (b : T → T → T → VH → Res Unit) (fo fi : ME) : MG := fun t τ h => match fo τ h with
  | .ok o h1 => (match fi τ h1 with
    | .ok i h2 => (match b o i t h2 with
      | .ok _ h3 => .ok τ h3
      | .bad => .bad)
    | .bad => .bad)
  | .bad => .bad
theorem xgSub {o i : Expr} {fo fi : ME} {r : TSet} {b : T → T → T → VH → Res Unit} {pos : Pos} (st : ST Y r b) (ho : PE X o (TM Y fo)) (hi : PE X i (TM Y fi)) (hs : PSet X r)
    (ha : ∀ v, assign (.Subscript o i pos) X.env v = (do
      let ov ← holding [v] (eval o X.env)
      let iv ← holding [v, ov] (eval i X.env)
      standAt pos
      holding [v, ov, iv] (setItem ov iv v)
      release [v, ov, iv] []) := by intro _; rfl) : PG X (.Subscript o i pos) (TMG Y (mgSub b fo fi)) :=
  pg_imp (pg_sub ho hi hs ha) fun v σ H Q q => by
    obtain ⟨ρ, τ, h, t, τ', h', G, r, e, to⟩ := q
    unfold mgSub at e
    cases e1 : fo τ h with
    | bad => simp only [e1] at e; cases e
    | ok ot h1 =>
      simp only [e1] at e
      cases e2 : fi τ h1 with
      | bad => simp only [e2] at e; cases e
      | ok it h2 =>
        simp only [e2] at e
        cases e3 : b ot it t h2 with
        | bad => simp only [e3] at e; cases e
        | ok u h3 =>
          simp only [e3] at e
          cases e
          refine ⟨ρ, τ, h, ot, h1, G, e1, ⟨fun ρ1 H1 vo ev hr1 ro => ⟨ρ1, τ, h1, it, h2, G.ev ev hr1, e2, ⟨fun ρ2 H2 vi ev2 hr2 ri => ?_⟩⟩⟩⟩
          exact st ρ2 H2 ot it t vo vi v h2 _ _ (ro.ev ev2.toEvR) ri (r.ev (ev.trans ev2).toEvR) hr2 e3 fun ρ3 H3 ev3 hr3 => to ρ3 H3 σ ((ev.trans ev2).trans ev3) hr3 (G.sl.ev ((ev.trans ev2).trans ev3).toEvR)
def sAsg (f : ME) (g : MG) : MS := fun τ h => match f τ h with
  | .ok t h1 => (match g t τ h1 with
    | .ok τ' h' => .nx τ' h'
    | .bad => .bad)
  | .bad => .bad
theorem tms_asg {f : ME} {g : MG} {D : Ends} {σ : St} {H : Hp} (q : TMS Y (sAsg f g) D σ H) : TM Y f σ H fun x H1 => TMG Y g x σ H1 D.nx := by
  obtain ⟨ρ, τ, h, G, to⟩ := q
  unfold sAsg at to
  cases e1 : f τ h with
  | bad => simp only [e1] at to; exact to.elim
  | ok t h1 =>
    simp only [e1] at to
    refine ⟨ρ, τ, h, t, h1, G, e1, ⟨fun ρ1 H1 v ev hr r => ?_⟩⟩
    cases e2 : g t τ h1 with
    | bad => simp only [e2] at to; exact to.elim
    | ok τ' h' =>
      simp only [e2] at to
      exact ⟨ρ1, τ, h1, t, τ', h', G.ev ev hr, r, e2, fun ρ2 H2 σ2 ev2 hr2 sl2 => to ρ2 H2 σ2 (ev.trans ev2) hr2 sl2⟩
theorem xsAsg {tg e : Expr} {f : ME} {g : MG} {pos : Pos} (he : PE X e (TM Y f)) (hg : PG X tg (TMG Y g)) (hs : swapsWithSole [tg] e pos.line X.env = pure false := by rfl) (hw : swappedStores [tg] e X.env = pure none := by rfl)
    (h1 : (assignEach [tg] X.env).map (·.2) = [assign tg X.env] := by rfl) : PS X (.Assign [tg] e pos) (TMS Y (sAsg f g)) := ps_imp (ps_asg he hg hs hw h1) fun D σ H q => tms_asg q
def sSet (i : Nat) (f : ME) : MS := fun τ h => match f τ h with
  | .ok t h1 => .nx (τ.set i (some t)) h1
  | .bad => .bad
theorem tms_set {i : Nat} {f : ME} {D : Ends} {σ : St} {H : Hp} (q : TMS Y (sSet i f) D σ H) : TM Y f σ H fun x H1 => D.nx (σ.set i (some x)) H1 := by
  obtain ⟨ρ, τ, h, G, to⟩ := q
  unfold sSet at to
  cases e1 : f τ h with
  | bad => simp only [e1] at to; exact to.elim
  | ok t h1 =>
    simp only [e1] at to
    exact ⟨ρ, τ, h, t, h1, G, e1, ⟨fun ρ1 H1 v ev hr r => to ρ1 H1 _ ev hr ((G.sl.ev ev.toEvR).set i r)⟩⟩
theorem xsSet {i : Nat} {x : Str} {e : Expr} {f : ME} {pos pos' : Pos} (hN : X.N.Nodup) (hi : X.N[i]? = some x) (hx : Loc X.env.scope x) (he : PE X e (TM Y f)) (hs : swapsWith e (some (.Name x pos')) pos.line X.env = pure false := by rfl) (hf : X.fn x = true ∨ X.env.scope.names.lookup x = some .local := by first | exact .inl rfl | exact .inr rfl | assumption) :
    PS X (.Assign [.Name x pos'] e pos) (TMS Y (sSet i f)) := ps_imp (ps_set hN hi hx he hs hf) fun D σ H q => tms_set q
/-- a, b = x, y with plain local names -/
def sPar (i j : Nat) (g : MA) : MS := fun τ h => match g τ h with
  | .ok [t, u] h1 => .nx ((τ.set i (some t)).set j (some u)) h1
  | _ => .bad
theorem xsPar {i j : Nat} {x y : Str} {a b : Expr} {g : MA} {px py pt pos : Pos} {kt k2 pt2} (hc : X.calm = true) (hN : X.N.Nodup) (hi : X.N[i]? = some x) (hj : X.N[j]? = some y) (hij : i ≠ j)
    (hx : X.env.scope.names.lookup x = some .local) (hy : X.env.scope.names.lookup y = some .local) (ha : PA X [a, b] (TMA Y g))
    (hw : swappedStores [.Tuple [.Name x px, .Name y py] kt pt] (.Tuple [a, b] k2 pt2) X.env = pure (some [x, y]) := by rfl)
    (hs : swapsWithSole [.Tuple [.Name x px, .Name y py] kt pt] (.Tuple [a, b] k2 pt2) pos.line X.env = pure false := by rfl) :
    PS X (.Assign [.Tuple [.Name x px, .Name y py] kt pt] (.Tuple [a, b] k2 pt2) pos) (TMS Y (sPar i j g)) := ps_imp (ps_par hc hN hi hj hij hx hy ha hw hs) fun D σ H q => by
  obtain ⟨ρ, τ, h, G, to⟩ := q
  unfold sPar at to
  split at to
  · rename_i t u h1 e1
    refine ⟨ρ, τ, h, [t, u], h1, G, e1, ⟨fun ρ1 H1 vs ev hr r => ?_⟩⟩
    cases r with
    | cons r1 r2 =>
      cases r2 with
      | cons r2 r3 =>
        cases r3
        exact ⟨_, _, rfl, to ρ1 H1 _ ev hr (((G.sl.ev ev.toEvR).set i r1).set j r2)⟩
  · exact to.elim

/-! ### what is walked -/
abbrev MI := TS_ → VH → Res (VH → Option (List T))
/-- J walks what rd tells, from (ρ, H) on -/
structure Wk (Y : Wd) (J : It) (rd : VH → Option (List T)) (ρ0 : Rh) (H0 : Hp) : Prop where
  go : ∀ ρ H h ts i t, EvR ρ0 H0 ρ H → HR Y ρ H h → rd h = some ts → ts[i]? = some t → J.go i H ∧ ∀ x H', J.yld i H x H' → Ev ρ H ρ H' ∧ HR Y ρ H' h ∧ Rp Y ρ H' t x
  stop : ∀ ρ H h ts i, EvR ρ0 H0 ρ H → HR Y ρ H h → rd h = some ts → ts.length ≤ i → J.stop i H
def TMI (Y : Wd) (f : MI) : TI := fun σ H R => ∃ ρ τ h rd h', Go Y ρ H τ σ h ∧ f τ h = .ok rd h' ∧ ∀ ρ' H' J, Ev ρ H ρ' H' → HR Y ρ' H' h' → Wk Y J rd ρ' H' → R J H'
theorem pi_imp {tg e : Expr} {t t' : TI} (h : PI X tg e t) (i : ∀ σ H Q, t' σ H Q → t σ H Q) : PI X tg e t' := ⟨fun pins s σ H R I q => h.run pins s σ H R I (i _ _ _ q)⟩

/-- the turns of a loop: n in all, k to go, at i -/
def forL (rd : VH → Option (List T)) (g : MG) (body : MS) (n : Nat) : Nat → Nat → TS_ → VH → Out
  | 0, _, τ, h => match rd h with
    | some ts => if ts.length = n then .nx τ h else .bad
    | none => .bad
  | k + 1, i, τ, h => match rd h with
    | some ts => if ts.length = n then (match ts[i]? with
      | some t => (match g t τ h with
        | .ok τ1 h1 => (match body τ1 h1 with
          | .nx τ2 h2 => forL rd g body n k (i + 1) τ2 h2
          | .ct τ2 h2 => forL rd g body n k (i + 1) τ2 h2
          | .bk τ2 h2 => .nx τ2 h2
          | o => o)
        | .bad => .bad)
      | none => .bad) else .bad
    | none => .bad
def sFor (mi : MI) (g : MG) (body : MS) : MS := fun τ h => match mi τ h with
  | .ok rd h1 => (match rd h1 with
    | some ts => forL rd g body ts.length ts.length 0 τ h1
    | none => .bad)
  | .bad => .bad
theorem tms_for {mi : MI} {g : MG} {body : MS} {D : Ends} {σ : St} {H : Hp} (q : TMS Y (sFor mi g body) D σ H) : tFor (TMI Y mi) (TMG Y g) (TMS Y body) D σ H := by
  obtain ⟨ρ, τ, h, G, to⟩ := q
  unfold sFor at to
  cases e1 : mi τ h with
  | bad => simp only [e1] at to; exact to.elim
  | ok rd h1 =>
    simp only [e1] at to
    refine ⟨ρ, τ, h, rd, h1, G, e1, fun ρ1 H1 J ev hr wk => ?_⟩
    cases e2 : rd h1 with
    | none => simp only [e2] at to; exact to.elim
    | some ts0 =>
      simp only [e2] at to
      refine ⟨fun i m σ H => i + m = ts0.length ∧ ∃ ρ2 τ2 h2, Ev ρ1 H1 ρ2 H ∧ Go Y ρ2 H τ2 σ h2 ∧ OutTo Y ρ2 H (forL rd g body ts0.length m i τ2 h2) D, ⟨ts0.length, by omega, ρ1, τ, h1, .refl, G.ev ev hr, to.ev ev⟩, ?_⟩
      rintro i m σ2 H2 ⟨him, ρ2, τ2, h2, ev2, G2, to2⟩
      cases m with
      | zero =>
        unfold forL at to2
        split at to2
        · rename_i ts ets
          split at to2
          · rename_i hl
            exact .inl ⟨wk.stop ρ2 H2 h2 ts i ev2.toEvR G2.hr ets (by omega), to2 ρ2 H2 σ2 .refl G2.hr G2.sl⟩
          · exact to2.elim
        · exact to2.elim
      | succ m =>
        unfold forL at to2
        split at to2
        · rename_i ts ets
          split at to2
          · rename_i hl
            split at to2
            · rename_i t et
              obtain ⟨go, yl⟩ := wk.go ρ2 H2 h2 ts i t ev2.toEvR G2.hr ets et
              refine .inr ⟨go, fun σ' H' => ∃ ρ3 τ3 h3, Ev ρ1 H1 ρ3 H' ∧ Go Y ρ3 H' τ3 σ' h3 ∧ OutTo Y ρ3 H' (forL rd g body ts0.length m (i + 1) τ3 h3) D, fun σ' H' hh => ⟨m, by omega, by omega, hh⟩, fun x H3 hy => ?_⟩
              obtain ⟨ev3, hr3, r3⟩ := yl x H3 hy
              split at to2
              · rename_i τ4 h4 e4
                refine ⟨ρ2, τ2, h2, t, τ4, h4, ⟨G2.sl.ev ev3.toEvR, hr3⟩, r3, e4, fun ρ5 H5 σ5 ev5 hr5 sl5 => ⟨ρ5, τ4, h4, ⟨sl5, hr5⟩, ?_⟩⟩
                have to3 := to2.ev (ev3.trans ev5)
                have evv := ev2.trans (ev3.trans ev5)
                cases e6 : body τ4 h4 with
                | nx τ6 h6 =>
                  simp only [e6] at to3
                  exact fun ρ7 H7 σ7 ev7 hr7 sl7 => ⟨ρ7, τ6, h6, evv.trans ev7, ⟨sl7, hr7⟩, to3.ev ev7⟩
                | ct τ6 h6 =>
                  simp only [e6] at to3
                  exact fun ρ7 H7 σ7 ev7 hr7 sl7 => ⟨ρ7, τ6, h6, evv.trans ev7, ⟨sl7, hr7⟩, to3.ev ev7⟩
                | bk τ6 h6 =>
                  simp only [e6] at to3
                  exact to3
                | rt t6 h6 =>
                  simp only [e6] at to3
                  exact to3
                | bad =>
                  simp only [e6] at to3
                  exact to3.elim
              · exact to2.elim
            · exact to2.elim
          · exact to2.elim
        · exact to2.elim
theorem xsFor {tg iter : Expr} {body : List Stmt} {mi : MI} {g : MG} {f : MS} {pos : Pos} (hp : PassesOwn (model X.prog X.w) X.A X.env X.xe) (hc : X.calm = true) (hi : PI X tg iter (TMI Y mi)) (hg : PG X tg (TMG Y g)) (hb : PSs X body (TMS Y f))
    (hs : ∀ x, foldedSetIterable iter X.env x = pure x := by intro _; rfl) : PS X (.For tg iter body [] pos) (TMS Y (sFor mi g f)) := ps_imp (ps_for hp hc hi hg hb hs) fun D σ H q => tms_for q

/-! ### while, by fuel -/
def whileL (c : MB) (body : MS) : Nat → TS_ → VH → Out
  | 0, _, _ => .bad
  | k + 1, τ, h => match c τ h with
    | .ok false h1 => .nx τ h1
    | .ok true h1 => (match body τ h1 with
      | .nx τ2 h2 => whileL c body k τ2 h2
      | .ct τ2 h2 => whileL c body k τ2 h2
      | .bk τ2 h2 => .nx τ2 h2
      | o => o)
    | .bad => .bad
theorem xsWhile {c : Expr} {body : List Stmt} {m : MB} {f : MS} {pos : Pos} (n : Nat) (hp : PassesOwn (model X.prog X.w) X.A X.env X.xe) (hc : PT X c (TMB Y m)) (hb : PSs X body (TMS Y f)) : PS X (.While c body [] pos) (TMS Y (whileL m f n)) := ps_imp (ps_while hp hc hb) fun D σ H q => by
  refine ⟨fun k σ H => ∃ ρ τ h, Go Y ρ H τ σ h ∧ OutTo Y ρ H (whileL m f k τ h) D, ⟨n, q⟩, ?_⟩
  rintro k σ1 H1 ⟨ρ, τ, h, G, to⟩
  cases k with
  | zero => exact to.elim
  | succ k =>
    unfold whileL at to
    split at to
    · rename_i h1 e1
      exact ⟨ρ, τ, h, false, h1, G, e1, ⟨fun ρ1 H1 b ev hr eb => by subst eb; exact iteF (to ρ1 H1 σ1 ev hr (G.sl.ev ev.toEvR))⟩⟩
    · rename_i h1 e1
      refine ⟨ρ, τ, h, true, h1, G, e1, ⟨fun ρ1 H2 b ev hr eb => ?_⟩⟩
      subst eb
      refine iteT ⟨fun σ' H' => ∃ ρ3 τ3 h3, Go Y ρ3 H' τ3 σ' h3 ∧ OutTo Y ρ3 H' (whileL m f k τ3 h3) D, fun σ' H' hh => ⟨k, by omega, hh⟩, ρ1, τ, h1, G.ev ev hr, ?_⟩
      have to3 := to.ev ev
      cases e6 : f τ h1 with
      | nx τ6 h6 =>
        simp only [e6] at to3
        exact fun ρ7 H7 σ7 ev7 hr7 sl7 => ⟨ρ7, τ6, h6, ⟨sl7, hr7⟩, to3.ev ev7⟩
      | ct τ6 h6 =>
        simp only [e6] at to3
        exact fun ρ7 H7 σ7 ev7 hr7 sl7 => ⟨ρ7, τ6, h6, ⟨sl7, hr7⟩, to3.ev ev7⟩
      | bk τ6 h6 => simp only [e6] at to3; exact to3
      | rt t6 h6 => simp only [e6] at to3; exact to3
      | bad => simp only [e6] at to3; exact to3.elim
    · exact to.elim

/-! ### comprehensions -/
def wipeT (τ : TS_) : List Nat → TS_
  | [] => τ
  | v :: vs => (wipeT τ vs).set v none
theorem Sl.unset {ρ : Rh} {H : Hp} {τ : TS_} {σ : St} (s : Sl Y ρ H τ σ) (i : Nat) : Sl Y ρ H (τ.set i none) (σ.set i none) := by
  refine ⟨by simp [s.1], fun j t' h => ?_⟩
  by_cases hj : i = j
  · subst hj
    have hi : i < τ.length := by
      have := (List.getElem?_eq_some_iff.mp h).1
      simpa using this
    rw [List.getElem?_set_self hi] at h
    cases h
  · rw [List.getElem?_set_ne hj] at h ⊢
    exact s.2 j t' h
theorem Sl.wipe {ρ : Rh} {H : Hp} {τ : TS_} {σ : St} (s : Sl Y ρ H τ σ) : ∀ vs : List Nat, Sl Y ρ H (wipeT τ vs) (wipe σ vs)
  | [] => s
  | v :: vs => (s.wipe vs).unset v
/-- a target of names, for a comprehension: the slots stored are among vs -/
def GOnly (g : TG) (vs : List Nat) : Prop := ∀ v σ0 σ H (Q : St → Hp → Prop), wipe σ vs = wipe σ0 vs → g v σ H Q → g v σ H fun σ2 H2 => wipe σ2 vs = wipe σ0 vs ∧ Q σ2 H2
theorem set_same {α : Type} (l : List α) (i : Nat) (a b : α) : (l.set i a).set i b = l.set i b := by simp
theorem wipe_set {σ : St} {v : V} : ∀ {vs : List Nat} {i : Nat}, i ∈ vs → wipe (σ.set i (some v)) vs = wipe σ vs
  | w :: vs, i, h => by
    unfold wipe
    by_cases hi : i = w
    · subst hi
      by_cases hm : i ∈ vs
      · rw [wipe_set hm]
      · have : ∀ (us : List Nat), i ∉ us → wipe (σ.set i (some v)) us = (wipe σ us).set i (some v) := by
          intro us
          induction us with
          | nil => intro _; rfl
          | cons u us ih =>
            intro hu
            unfold wipe
            rw [ih (fun z => hu (List.mem_cons_of_mem _ z)), List.set_comm _ _ (fun z => hu (by rw [z]; exact List.mem_cons_self))]
        rw [this vs hm, set_same]
    · rw [wipe_set ((List.mem_cons.mp h).resolve_left hi)]
theorem gonly_name {i : Nat} {vs : List Nat} (h : i ∈ vs) : GOnly (gName i) vs := fun v σ0 σ H Q e q => ⟨by rw [wipe_set h]; exact e, q⟩
def GsOnly (g : TGs) (vs : List Nat) : Prop := ∀ v σ0 σ H (Q : St → Hp → Prop), wipe σ vs = wipe σ0 vs → g v σ H Q → g v σ H fun σ2 H2 => wipe σ2 vs = wipe σ0 vs ∧ Q σ2 H2
theorem gsonly_nil {vs : List Nat} : GsOnly gNil vs := fun v σ0 σ H Q e q => ⟨q.1, e, q.2⟩
end
end TL

set_option Elab.async false
set_option linter.all false
set_option maxRecDepth 100000
set_option maxHeartbeats 4000000
namespace TL
open PySem PySem.Spec L2
open PyProof.Rows (envOfC)
section
variable {X : Cx} {Y : Wd}
/-! ### a comprehension's target: names among vs -/
def TMGW (Y : Wd) (g : MG) (ws : List Nat) : TG := fun v σ H Q => ∃ ρ τ h t τ' h', Go Y ρ H τ σ h ∧ Rp Y ρ H t v ∧ g t τ h = .ok τ' h' ∧ ∀ ρ' H' σ', Ev ρ H ρ' H' → HR Y ρ' H' h' → Sl Y ρ' H' τ' σ' → wipe σ' ws = wipe σ ws → Q σ' H'
def TMGsW (Y : Wd) (g : MGs) (ws : List Nat) : TGs := fun v σ H Q => ∃ ρ τ h t τ' h', Go Y ρ H τ σ h ∧ Rps Y ρ H t v ∧ g t τ h = .ok τ' h' ∧ ∀ ρ' H' σ', Ev ρ H ρ' H' → HR Y ρ' H' h' → Sl Y ρ' H' τ' σ' → wipe σ' ws = wipe σ ws → Q σ' H'
theorem wgName {i : Nat} {ws : List Nat} {x : Str} {pos : Pos} (hm : i ∈ ws) (hN : X.N.Nodup) (hi : X.N[i]? = some x) (hx : Loc X.env.scope x) (hf : X.fn x = true ∨ X.env.scope.names.lookup x = some .local := by first | exact .inl rfl | exact .inr rfl | assumption) : PG X (.Name x pos) (TMGW Y (mgName i) ws) :=
  pg_imp (pg_name hN hi hx hf) fun v σ H Q q => by
    obtain ⟨ρ, τ, h, t, τ', h', G, r, e, to⟩ := q
    cases e
    exact to ρ H _ .refl G.hr (G.sl.set i r) (wipe_set hm)
theorem wgsNil {ws : List Nat} : PGs X [] (TMGsW Y mgsNil ws) := pgs_imp pgs_nil fun v σ H Q q => by
  obtain ⟨ρ, τ, h, t, τ', h', G, r, e, to⟩ := q
  cases r with
  | nil => cases e; exact ⟨rfl, to ρ H _ .refl G.hr G.sl rfl⟩
  | cons a b => cases e
theorem wgsCons {ws : List Nat} {e : Expr} {es : List Expr} {g : MG} {gs : MGs} (h1 : PG X e (TMGW Y g ws)) (h2 : PGs X es (TMGsW Y gs ws)) (hs : (assignEach (e :: es) X.env).map (·.2) = assign e X.env :: (assignEach es X.env).map (·.2) := by rfl) : PGs X (e :: es) (TMGsW Y (mgsCons g gs) ws) :=
  pgs_imp (pgs_cons h1 h2 hs) fun v σ H Q q => by
    obtain ⟨ρ, τ, h, t, τ', h', G, r, e, to⟩ := q
    cases r with
    | nil => cases e
    | cons a b =>
      unfold mgsCons at e
      dsimp only at e
      split at e
      · rename_i τ1 h1 e1
        exact ⟨_, _, rfl, ρ, τ, h, _, τ1, h1, G, a, e1, fun ρ1 H1 σ1 ev hr sl w1 => ⟨ρ1, τ1, h1, _, τ', h', ⟨sl, hr⟩, b.ev ev.toEvR, e, fun ρ2 H2 σ2 ev2 hr2 sl2 w2 => to ρ2 H2 σ2 (ev.trans ev2) hr2 sl2 (w2.trans w1)⟩⟩
      · cases e
theorem wgTup {ws : List Nat} {es : List Expr} {k : Nat} {gs : MGs} {n : Nat} {pos : Pos} (hc : X.calm = true) (hK : X.K = Y.K) (h : PGs X es (TMGsW Y gs ws)) (hn : (assignEach es X.env).length = n := by rfl) (hst : (assignEach es X.env).findIdx? (·.1) = none := by rfl) : PG X (.Tuple es k pos) (TMGW Y (mgTup n gs) ws) :=
  pg_imp (pg_tup hc h hn hst) fun v σ H Q q => by
    obtain ⟨ρ, τ, h, t, τ', h', G, r, e, to⟩ := q
    unfold mgTup at e
    split at e
    · split at e
      · rename_i ts hl
        cases r with
        | tup ta rs => exact ⟨_, _, rfl, by rw [hK]; exact ta.sq, by rw [rs.length]; exact hl, ρ, τ, h, ts, τ', h', G, rs, e, to⟩
      · cases e
    · cases e
/-! ### a clause's tests -/
def bYes : MB := fun _ h => .ok true h
theorem pts_imp {e : List Expr} {t t' : TT} (h : PTs X e t) (i : ∀ σ H Q, t' σ H Q → t σ H Q) : PTs X e t' := ⟨fun pins s σ H Q I q => h.run pins s σ H Q I (i _ _ _ q)⟩
theorem xtsNil : PTs X [] (TMB Y bYes) := pts_imp pts_nil fun σ H Q q => by
  obtain ⟨ρ, τ, h, u, h', G, e, to⟩ := q
  cases e
  exact to.to ρ H _ .refl G.hr rfl
theorem xtsOne {c : Expr} {m : MB} (h : PT X c (TMB Y m)) : PTs X [c] (TMB Y m) := pts_one h

/-- the turns of a comprehension -/
def lcL (rd : VH → Option (List T)) (g : MG) (c : MB) (e : ME) (τ : TS_) (n : Nat) : Nat → Nat → List T → VH → Res (List T)
  | 0, _, acc, h => match rd h with
    | some ts => if ts.length = n then .ok acc h else .bad
    | none => .bad
  | k + 1, i, acc, h => match rd h with
    | some ts => if ts.length = n then (match ts[i]? with
      | some t => (match g t τ h with
        | .ok τ1 h1 => (match c τ1 h1 with
          | .ok true h2 => (match e τ1 h2 with
            | .ok y h3 => lcL rd g c e τ n k (i + 1) (acc ++ [y]) h3
            | .bad => .bad)
          | .ok false h2 => lcL rd g c e τ n k (i + 1) acc h2
          | .bad => .bad)
        | .bad => .bad)
      | none => .bad) else .bad
    | none => .bad
def mLc (mi : MI) (ws : List Nat) (g : MG) (c : MB) (e : ME) : MA := fun τ h => match mi τ h with
  | .ok rd h1 => (match rd h1 with
    | some ts => if ts.length ≤ 16777216 then lcL rd g c e (wipeT τ ws) ts.length ts.length 0 [] h1 else .bad
    | none => .bad)
  | .bad => .bad
theorem wipe_idem (σ : St) : ∀ ws : List Nat, wipe (wipe σ ws) ws = wipe σ ws := by
  have one : ∀ (ws : List Nat) (u : Nat), u ∈ ws → (wipe σ ws).set u none = wipe σ ws := by
    intro ws u
    induction ws with
    | nil => intro hm; cases hm
    | cons w ws ih2 =>
      intro hm
      show ((wipe σ ws).set w none).set u none = (wipe σ ws).set w none
      by_cases hw : u = w
      · subst hw; simp
      · rw [List.set_comm _ _ (fun z => hw z.symm), ih2 ((List.mem_cons.mp hm).resolve_left hw)]
  have key : ∀ (us ws : List Nat), (∀ u ∈ us, u ∈ ws) → wipe (wipe σ ws) us = wipe σ ws := by
    intro us
    induction us with
    | nil => intro ws _; rfl
    | cons u us ih =>
      intro ws h
      show (wipe (wipe σ ws) us).set u none = wipe σ ws
      rw [ih ws fun v hv => h v (List.mem_cons_of_mem _ hv)]
      exact one ws u (h u List.mem_cons_self)
  exact fun ws => key ws ws fun _ h => h
theorem Sl.updb {ρ : Rh} {H : Hp} {τ : TS_} {σ : St} {p : Addr} {o : HO} (hp : p ∈ ρ.bn) (s : Sl Y ρ H τ σ) : Sl Y ρ (upd H p o) τ σ := ⟨s.1, fun i t h => let ⟨v, a, b⟩ := s.2 i t h; ⟨v, a, b.updb hp⟩⟩
theorem ban_split {ρ1 ρ2 ρ' : Rh} {H1 H2 H' : Hp} {D : Addr} (hD : H1 D = none) (a : Ev ρ1 H1 ρ2 H2) (b : Ev (ρ2.ban D) H2 ρ' H') : ∃ ρ8 : Rh, ρ' = ρ8.ban D ∧ Ev ρ1 H1 ρ8 H' := by
  obtain ⟨ix, bn⟩ := ρ'
  have e : bn = D :: ρ2.bn := b.bn
  subst e
  refine ⟨⟨ix, ρ2.bn⟩, rfl, a.trans ?_⟩
  exact .mk' b.more rfl b.keep b.there
theorem Ev.updf {ρ ρ' : Rh} {H H' : Hp} {D : Addr} {o : HO} (hD : H D = none) (e : Ev ρ H ρ' H') : Ev ρ H ρ' (upd H' D o) :=
  .mk' e.more e.bn (fun b u z n => by rw [upd_ne (ne_of_none z hD)]; exact e.keep b u z n) fun b z => by
    by_cases q : b = D
    · rw [q, upd_same]; simp
    · rw [upd_ne q]; exact e.there b z
theorem tm_lc {mi : MI} {g : MG} {c : MB} {e : ME} {ws : List Nat} {σ : St} {H : Hp} {Q : VK} (q : TMF Y (mLc mi ws g c e) σ H Q) : tLc (TMI Y mi) (TMGW Y g ws) (TMB Y c) (TM Y e) ws σ H Q := by
  obtain ⟨ρ, τ, h, ys, h', G, e0, to⟩ := q
  unfold mLc at e0
  cases e1 : mi τ h with
  | bad => simp only [e1] at e0; cases e0
  | ok rd h1 =>
    simp only [e1] at e0
    refine ⟨ρ, τ, h, rd, h1, G, e1, fun ρ1 H1 J ev hr wk => ?_⟩
    cases e2 : rd h1 with
    | none => simp only [e2] at e0; cases e0
    | some ts0 =>
      simp only [e2] at e0
      split at e0
      case isFalse => cases e0
      rename_i hz0
      intro D hD
      have hD0 : H D = none := ev.fresh hD
      have slw : Sl Y ρ1 H1 (wipeT τ ws) (wipe σ ws) := (G.sl.ev ev.toEvR).wipe ws
      have slb : Sl Y (ρ1.ban D) (upd H1 D (.lst [])) (wipeT τ ws) (wipe σ ws) := ⟨slw.1, fun i t ht => let ⟨v, a, b⟩ := slw.2 i t ht; ⟨v, a, (b.ban hD).updb List.mem_cons_self⟩⟩
      have ev0 : Ev ρ1 H1 ρ1 (upd H1 D (.lst [])) := Ev.new hD
      refine ⟨fun i m H => i + m = ts0.length ∧ ∃ ρ2 h2 acc vs, Ev ρ1 H1 ρ2 H ∧ Sl Y (ρ2.ban D) H (wipeT τ ws) (wipe σ ws) ∧ HR Y (ρ2.ban D) H h2 ∧ H D = some (.lst vs) ∧ Rps Y (ρ2.ban D) H acc vs ∧ acc.length ≤ i ∧ lcL rd g c e (wipeT τ ws) ts0.length m i acc h2 = .ok ys h',
        ⟨ts0.length, by omega, ρ1, h1, [], [], ev0, slb, hr.begin hD, upd_same, .nil, Nat.le_refl _, e0⟩, ?_⟩
      rintro i m H2 ⟨him, ρ2, h2, acc, vs, ev2, sl2, hr2, hd2, rs2, hl2, e3⟩
      have mb : D ∈ (ρ2.ban D).bn := List.mem_cons_self
      have nix2 : D ∉ (ρ2.ban D).ix := (hr2.bt D mb).2
      cases m with
      | zero =>
        unfold lcL at e3
        split at e3
        · rename_i ts ets
          split at e3
          · rename_i hl
            cases e3
            have hn : vs.length ≤ sizeLine := by rw [rs2.length, sizeLine_eq]; omega
            have nix : D ∉ ρ2.ix := (hr2.bt D mb).2
            have nb : D ∉ ρ2.bn := fun z => by
              rw [ev2.bn] at z
              exact (hr.bt D z).1 hD
            exact .inl ⟨wk.stop ρ2 H2 _ ts i ev2.toEvR hr2.unban ets (by omega), to ρ2 H2 D vs (ev.trans ev2) hr2.unban hD0 ⟨hn, ⟨nix, nb⟩, hd2⟩ rs2.unban (hr2.topush nb ⟨vs, hd2, hn, rs2.topush⟩)⟩
          · cases e3
        · cases e3
      | succ m =>
        unfold lcL at e3
        split at e3
        · rename_i ts ets
          split at e3
          · rename_i hl
            split at e3
            · rename_i t et
              obtain ⟨go, yl⟩ := wk.go (ρ2.ban D) H2 h2 ts i t (ev2.toEvR.ban hD) hr2 ets et
              refine .inr ⟨go, fun H' => ∃ ρ3 h3 acc3 vs3, Ev ρ1 H1 ρ3 H' ∧ Sl Y (ρ3.ban D) H' (wipeT τ ws) (wipe σ ws) ∧ HR Y (ρ3.ban D) H' h3 ∧ H' D = some (.lst vs3) ∧ Rps Y (ρ3.ban D) H' acc3 vs3 ∧ acc3.length ≤ i + 1 ∧ lcL rd g c e (wipeT τ ws) ts0.length m (i + 1) acc3 h3 = .ok ys h',
                fun H' hh => ⟨m, by omega, by omega, hh⟩, fun x H3 hy => ?_⟩
              obtain ⟨ev3, hr3, r3⟩ := yl x H3 hy
              split at e3
              case h_2 => cases e3
              rename_i τ4 h4 e4
              refine ⟨ρ2.ban D, wipeT τ ws, h2, t, τ4, h4, ⟨sl2.ev ev3.toEvR, hr3⟩, r3, e4, fun ρ5 H5 σ5 ev5 hr5 sl5 w5 => ?_⟩
              refine ⟨by rw [w5]; exact wipe_idem σ ws, ?_⟩
              have ev35 := ev3.trans ev5
              split at e3
              case h_3 => cases e3
              · rename_i h6 e6
                split at e3
                case h_2 => cases e3
                rename_i y h7 e7
                refine ⟨ρ5, τ4, h4, true, h6, ⟨sl5, hr5⟩, e6, ⟨fun ρ6 H6 b ev6 hr6 eb => ?_⟩⟩
                subst eb
                refine iteT ⟨ρ6, τ4, h6, y, h7, ⟨sl5.ev ev6.toEvR, hr6⟩, e7, ⟨fun ρ7 H7 v ev7 hr7 r7 => ?_⟩⟩
                have eva := (ev35.trans ev6).trans ev7
                have hd7 : H7 D = some (.lst vs) := eva.keep D _ hd2 nix2
                obtain ⟨ρ8, rfl, ev8⟩ := ban_split hD ev2 eva
                have mb7 : D ∈ (ρ8.ban D).bn := List.mem_cons_self
                refine ⟨vs, hd7, by rw [rs2.length, sizeLine_eq]; omega, ρ8, h7, acc ++ [y], vs ++ [v], ev8.updf hD, ?_, hr7.updb mb7, upd_same, ((rs2.ev eva.toEvR).snoc r7).updb mb7, by simp; omega, e3⟩
                exact (sl2.ev eva.toEvR).updb mb7
              · rename_i h6 e6
                refine ⟨ρ5, τ4, h4, false, h6, ⟨sl5, hr5⟩, e6, ⟨fun ρ6 H6 b ev6 hr6 eb => ?_⟩⟩
                subst eb
                refine iteF ?_
                have eva := ev35.trans ev6
                have hd7 : H6 D = some (.lst vs) := eva.keep D _ hd2 nix2
                obtain ⟨ρ8, rfl, ev8⟩ := ban_split hD ev2 eva
                exact ⟨ρ8, h6, acc, vs, ev8, sl2.ev eva.toEvR, hr6, hd7, rs2.ev eva.toEvR, by omega, e3⟩
            · cases e3
          · cases e3
        · cases e3

theorem pe_tmf {e : Expr} {t : TE} {f : MA} (h : PE X e t) (i : ∀ σ H Q, TMF Y f σ H Q → t σ H Q) : PE X e (TMF Y f) := pe_imp h i
theorem xLc {elt tg iter : Expr} {ifs : List Expr} {scope : Scope} {own : List (Str × Nat)} {pos : Pos} {mi : MI} {g : MG} {c : MB} {f : ME} (hc : X.calm = true) (hN : X.N.Nodup) (hi : PI X tg iter (TMI Y mi)) (ok : BlkOk X.N X.env.scope scope own)
    (hg : ∀ (s : Shared) (H : Hp) (C : Addr) (cl : List (Str × Addr)) (fp : List Addr), PG (X.blk s H scope (compEnvC scope cl C X.env) fp) tg (TMGW Y g (own.map (·.2)))) (ht : ∀ (s : Shared) (H : Hp) (C : Addr) (cl : List (Str × Addr)) (fp : List Addr), PTs (X.blk s H scope (compEnvC scope cl C X.env) fp) ifs (TMB Y c))
    (he : ∀ (s : Shared) (H : Hp) (C : Addr) (cl : List (Str × Addr)) (fp : List Addr), PE (X.blk s H scope (compEnvC scope cl C X.env) fp) elt (TM Y f)) (hs : ∀ x, foldedSetIterable iter X.env x = pure x := by intro _; rfl) :
    PE X (.ListComp elt [⟨tg, iter, ifs, 0⟩] scope pos) (TMF Y (mLc mi (own.map (·.2)) g c f)) := pe_tmf (pe_lc hc hN hi ok hg ht he hs) fun σ H Q q => tm_lc q
/-- name = [..]: the list is plain, or one that may change -/
theorem xsSetLcL {i : Nat} {y : Str} {py : Pos} {elt tg iter : Expr} {ifs : List Expr} {scope : Scope} {own : List (Str × Nat)} {pos spos : Pos} {mi : MI} {g : MG} {c : MB} {f : ME} (hc : X.calm = true) (hN : X.N.Nodup) (hy : X.N[i]? = some y) (hyl : X.env.scope.names.lookup y = some .local)
    (hsw : swapsWith (.ListComp elt [⟨tg, iter, ifs, 0⟩] scope pos) (some (.Name y py)) spos.line X.env = pure true) (hi : PI X tg iter (TMI Y mi)) (ok : BlkOk X.N X.env.scope scope own)
    (hg : ∀ (s : Shared) (H : Hp) (C : Addr) (cl : List (Str × Addr)) (fp : List Addr), PG (X.blk s H scope (compEnvC scope cl C X.env) fp) tg (TMGW Y g (own.map (·.2)))) (ht : ∀ (s : Shared) (H : Hp) (C : Addr) (cl : List (Str × Addr)) (fp : List Addr), PTs (X.blk s H scope (compEnvC scope cl C X.env) fp) ifs (TMB Y c))
    (he : ∀ (s : Shared) (H : Hp) (C : Addr) (cl : List (Str × Addr)) (fp : List Addr), PE (X.blk s H scope (compEnvC scope cl C X.env) fp) elt (TM Y f)) (hs : ∀ x, foldedSetIterable iter X.env x = pure x := by intro _; rfl) :
    PS X (.Assign [.Name y py] (.ListComp elt [⟨tg, iter, ifs, 0⟩] scope pos) spos) (TMS Y (sSet i (eL (mLc mi (own.map (·.2)) g c f)))) := ps_imp (ps_setLc hc hN hy hyl hsw hi ok hg ht he hs) fun D σ H q => by
  obtain ⟨ρ, τ, h, ts, h', G, e, to⟩ := tms_set q
  unfold eL at e
  cases e1 : mLc mi (own.map (·.2)) g c f τ h with
  | bad => simp only [e1] at e; cases e
  | ok us h1 =>
    simp only [e1] at e
    cases e
    exact tm_lc ⟨ρ, τ, h, us, _, G, e1, fun ρ' H' D' vs ev hr hD la rs _ => to.to ρ' H' _ ev hr (.lst la rs)⟩
theorem xsSetLcH {i : Nat} {y : Str} {py : Pos} {elt tg iter : Expr} {ifs : List Expr} {scope : Scope} {own : List (Str × Nat)} {pos spos : Pos} {mi : MI} {g : MG} {c : MB} {f : ME} (hc : X.calm = true) (hN : X.N.Nodup) (hy : X.N[i]? = some y) (hyl : X.env.scope.names.lookup y = some .local)
    (hsw : swapsWith (.ListComp elt [⟨tg, iter, ifs, 0⟩] scope pos) (some (.Name y py)) spos.line X.env = pure true) (hi : PI X tg iter (TMI Y mi)) (ok : BlkOk X.N X.env.scope scope own)
    (hg : ∀ (s : Shared) (H : Hp) (C : Addr) (cl : List (Str × Addr)) (fp : List Addr), PG (X.blk s H scope (compEnvC scope cl C X.env) fp) tg (TMGW Y g (own.map (·.2)))) (ht : ∀ (s : Shared) (H : Hp) (C : Addr) (cl : List (Str × Addr)) (fp : List Addr), PTs (X.blk s H scope (compEnvC scope cl C X.env) fp) ifs (TMB Y c))
    (he : ∀ (s : Shared) (H : Hp) (C : Addr) (cl : List (Str × Addr)) (fp : List Addr), PE (X.blk s H scope (compEnvC scope cl C X.env) fp) elt (TM Y f)) (hs : ∀ x, foldedSetIterable iter X.env x = pure x := by intro _; rfl) :
    PS X (.Assign [.Name y py] (.ListComp elt [⟨tg, iter, ifs, 0⟩] scope pos) spos) (TMS Y (sSet i (eH (mLc mi (own.map (·.2)) g c f)))) := ps_imp (ps_setLc hc hN hy hyl hsw hi ok hg ht he hs) fun D σ H q => by
  obtain ⟨ρ, τ, h, ts, h', G, e, to⟩ := tms_set q
  unfold eH at e
  cases e1 : mLc mi (own.map (·.2)) g c f τ h with
  | bad => simp only [e1] at e; cases e
  | ok us h1 =>
    simp only [e1] at e
    cases e
    refine tm_lc ⟨ρ, τ, h, us, h1, G, e1, fun ρ' H' D' vs ev hr hD la rs hp => to.to (ρ'.push D') H' _ (.mk' ?_ ev.bn ev.keep ev.there) hp (.ref ?_)⟩
    · obtain ⟨m, em, hm⟩ := ev.more
      refine ⟨m ++ [D'], by simp [Rh.push, em], fun p hp => ?_⟩
      rcases List.mem_append.mp hp with z | z
      · exact hm p z
      · rw [List.mem_singleton.mp z]; exact hD
    · show (ρ'.ix ++ [D'])[_]? = _
      rw [List.getElem?_append_right (by rw [hr.len]; exact Nat.le_refl _), hr.len]
      simp

/-! ### defs -/
/-- what a def promises: what its mirror gives -/
def spM (Y : Wd) (m : List T → VH → Res T) : Sp := fun vs H Q _ => ∃ ρ ts h t h', Rps Y ρ H ts vs ∧ HR Y ρ H h ∧ m ts h = .ok t h' ∧ To Y (Rp Y) ρ H t h' Q
def startT (n : Nat) (ts : List T) : TS_ := ts.map some ++ List.replicate (n - ts.length) none
/-- a def's mirror: its body's, with n slots, p parameters -/
def defM (n p : Nat) (f : MS) : List T → VH → Res T := fun ts h => if ts.length = p then (match f (startT n ts) h with
  | .nx _ h' => .ok .non h'
  | .rt t h' => .ok t h'
  | _ => .bad) else .bad
theorem sl_start {ρ : Rh} {H : Hp} {ts : List T} {vs : List V} {N : List Str} (r : Rps Y ρ H ts vs) : Sl Y ρ H (startT N.length ts) (L2.start N vs) := by
  have hl := r.length
  refine ⟨by simp [startT, L2.start, hl], fun i t e => ?_⟩
  unfold startT at e
  by_cases hi : i < ts.length
  · rw [List.getElem?_append_left (by simpa using hi), List.getElem?_map] at e
    cases q : ts[i]? with
    | none => rw [q] at e; cases e
    | some u =>
      rw [q] at e
      cases e
      obtain ⟨v, hv, rv⟩ := r.get q
      refine ⟨v, ?_, rv⟩
      unfold L2.start
      rw [List.getElem?_append_left (by simp [hl]; exact hi), List.getElem?_map, hv]
      rfl
  · rw [List.getElem?_append_right (by simpa using Nat.le_of_not_lt hi), List.getElem?_replicate] at e
    split at e <;> cases e
/-- the promise of a def whose body has a mirror -/
theorem fnM {P : Program} {w : World} {K : PySem.W.Frag} {mg : Str → Option Value} {base : Heap} {x qual : Str} {params : Arguments} {body : List Stmt} {scope : Scope} {dvs : List V} {kws : List (Str × V)} {f : Addr} {fd : FuncData} {N ps : List Str} {k : Nat} {g : MS}
    (F : FunD K x qual params body scope dvs kws f fd) (S : FnScope N ps scope) (n p : Nat) (hn : N.length = n := by rfl) (hp : ps.length = p := by rfl)
    (hb : ∀ (cdv : Value) (A : Around) (outer : List Env) (s : Shared) (H : Hp) (E : XK), Room k (A.deeper (envOfC qual scope s.heap.objs.size f cdv)) → PSs (cxOf CX0 P w K mg base N qual scope f cdv A outer s H E).nox body (TMS Y g)) :
    FnOk P w K mg base CX0 (k + 1) f fd ps (spM Y (defM n p g)) := by
  subst hn hp
  refine F.ok S (fun vs H Q E h => ?_) (fun cdv A outer s H vs Q E hr h => ⟨TMS Y g, (hb cdv A outer s H E hr).nox, ?_⟩)
  · obtain ⟨ρ, ts, hh, t, h', r, hr, e, to⟩ := h
    unfold defM at e
    split at e
    · rename_i hl
      rw [r.length]; exact hl
    · cases e
  · obtain ⟨ρ, ts, hh, t, h', r, hr, e, to⟩ := h
    unfold defM at e
    split at e
    · rename_i hl
      refine ⟨ρ, startT N.length ts, hh, ⟨sl_start r, hr⟩, ?_⟩
      cases q : g (startT N.length ts) hh with
      | nx τ' h1 =>
        simp only [q] at e
        cases e
        exact fun ρ' H' σ' ev hr' sl => to.to ρ' H' .non ev hr' .non
      | rt u h1 =>
        simp only [q] at e
        cases e
        exact fun ρ' H' v ev hr' r' => to.to ρ' H' v ev hr' r'
      | bk τ' h1 => simp only [q] at e; cases e
      | ct τ' h1 => simp only [q] at e; cases e
      | bad => simp only [q] at e; cases e
    · cases e
/-! ### calls of defs -/
theorem ct_sp {m : List T → VH → Res T} (E : XK) : CT Y (fun vs H Q => spM Y m vs H Q E) m := fun ρ H ts vs h t h' Q r hr e to => ⟨ρ, ts, h, t, h', r, hr, e, to⟩
theorem xCall {k : Nat} {f : Addr} {fd : FuncData} {ps : List Str} {m : List T → VH → Res T} {x : Str} {p pos : Pos} {e : Expr} {es : List Expr} {g : MA} (F : FnOk X.prog X.w X.K X.mg X.base CX0 k f fd ps (spM Y m)) (hr : Room k X.A) (hg : Gl X x) (hm : X.mg x = some (.ref f)) (hk : PySem.W.keepIn X.K (.ref f) = true) (hb : Binds X.K fd ps [])
    (ha : PA X (e :: es) (TMA Y g)) (hdb : (x == ("__debug__" : Str)) = false := by decide) (he : starEach (e :: es) X.env = (false, eval e X.env) :: starEach es X.env := by rfl) (hpl : (backTo pos (starEach es X.env)).any (·.1) = false := by rfl) :
    PE X (.Call (.Name x p) (e :: es) [] pos) (TM Y (eCall m g)) := pe_imp (pe_call F hr hg hm hk hb .nil pass0 ha hdb he hpl) fun σ H Q q => by
  have z := tm_call (ct_sp (m := m) E0) q
  obtain ⟨ρ, τ, h, t, h1, G, e1, to⟩ := z
  exact ⟨ρ, τ, h, t, h1, G, e1, ⟨fun ρ' H' v ev hr r => by rw [List.append_nil]; exact to.to ρ' H' v ev hr r⟩⟩
theorem xCall0 {k : Nat} {f : Addr} {fd : FuncData} {ps : List Str} {m : List T → VH → Res T} {x : Str} {p pos : Pos} (F : FnOk X.prog X.w X.K X.mg X.base CX0 k f fd ps (spM Y m)) (hr : Room k X.A) (hg : Gl X x) (hm : X.mg x = some (.ref f)) (hk : PySem.W.keepIn X.K (.ref f) = true) (hb : Binds X.K fd ps [])
    (hdb : (x == ("__debug__" : Str)) = false := by decide) : PE X (.Call (.Name x p) [] [] pos) (TM Y (eCall m aNil)) := pe_imp (pe_call0 F hr hg hm hk hb .nil pass0 hdb) fun σ H Q q => by
  obtain ⟨ρ, τ, h, t, h1, G, e1, to⟩ := tm_call (ct_sp (m := m) E0) q
  cases e1
  exact to.to ρ H [] .refl G.hr .nil
/-! ### what a call leaves behind is forgotten -/
mutual
def T.lowR (n : Nat) : T → Bool
  | .tup ts => lowRs n ts
  | .arg ts => lowRs n ts
  | .lst ts => lowRs n ts
  | .obj _ fs => lowRs n fs
  | .ref k => decide (k < n)
  | _ => true
def lowRs (n : Nat) : List T → Bool
  | [] => true
  | t :: ts => t.lowR n && lowRs n ts
end
end
end TL

set_option Elab.async false
set_option linter.all false
set_option maxRecDepth 100000
set_option maxHeartbeats 4000000
namespace TL
open PySem PySem.Spec L2
open PyProof.Rows (envOfC)
/-! ### equality of tree values as they stand -/
mutual
def T.eqb : T → T → Bool
  | .non, .non => true
  | .bl a, .bl b => a == b
  | .int a, .int b => a == b
  | .str a, .str b => a == b
  | .tup a, .tup b => T.eqbs a b
  | .arg a, .arg b => T.eqbs a b
  | .lst a, .lst b => T.eqbs a b
  | .obj c a, .obj d b => c == d && T.eqbs a b
  | .ref a, .ref b => a == b
  | _, _ => false
def T.eqbs : List T → List T → Bool
  | [], [] => true
  | a :: as, b :: bs => T.eqb a b && T.eqbs as bs
  | _, _ => false
end
mutual
theorem T.eqb_eq : ∀ {a b : T}, T.eqb a b = true → a = b
  | .non, b, h => by cases b <;> first | rfl | (simp [T.eqb] at h)
  | .bl x, b, h => by cases b <;> first | (simp [T.eqb] at h; done) | (simp [T.eqb] at h; rw [h])
  | .int x, b, h => by cases b <;> first | (simp [T.eqb] at h; done) | (simp [T.eqb] at h; rw [h])
  | .str x, b, h => by cases b <;> first | (simp [T.eqb] at h; done) | (simp [T.eqb] at h; rw [h])
  | .ref x, b, h => by cases b <;> first | (simp [T.eqb] at h; done) | (simp [T.eqb] at h; rw [h])
  | .tup x, b, h => by cases b <;> first | (simp [T.eqb] at h; done) | (simp only [T.eqb] at h; rw [T.eqbs_eq h])
  | .arg x, b, h => by cases b <;> first | (simp [T.eqb] at h; done) | (simp only [T.eqb] at h; rw [T.eqbs_eq h])
  | .lst x, b, h => by cases b <;> first | (simp [T.eqb] at h; done) | (simp only [T.eqb] at h; rw [T.eqbs_eq h])
  | .obj c x, b, h => by cases b <;> first | (simp [T.eqb] at h; done) | (simp only [T.eqb, Bool.and_eq_true, beq_iff_eq] at h; rw [h.1, T.eqbs_eq h.2])
theorem T.eqbs_eq : ∀ {a b : List T}, T.eqbs a b = true → a = b
  | [], [], _ => rfl
  | [], _ :: _, h => by simp [T.eqbs] at h
  | _ :: _, [], h => by simp [T.eqbs] at h
  | a :: as, b :: bs, h => by
    simp only [T.eqbs, Bool.and_eq_true] at h
    rw [T.eqb_eq h.1, T.eqbs_eq h.2]
end
mutual
theorem T.eqb_refl : ∀ a : T, T.eqb a a = true
  | .non => rfl
  | .bl x => by simp [T.eqb]
  | .int x => by simp [T.eqb]
  | .str x => by simp [T.eqb]
  | .ref x => by simp [T.eqb]
  | .tup x => by simp only [T.eqb]; exact T.eqbs_refl x
  | .arg x => by simp only [T.eqb]; exact T.eqbs_refl x
  | .lst x => by simp only [T.eqb]; exact T.eqbs_refl x
  | .obj c x => by simp only [T.eqb, beq_self_eq_true, Bool.true_and]; exact T.eqbs_refl x
theorem T.eqbs_refl : ∀ a : List T, T.eqbs a a = true
  | [] => rfl
  | a :: as => by simp only [T.eqbs, T.eqb_refl a, T.eqbs_refl as, Bool.and_self]
end
def VO.eqb : VO → VO → Bool
  | .lst a, .lst b => T.eqbs a b
  | .ins c a, .ins d b => c == d && T.eqbs a b
  | .dct a, .dct b => T.eqbs (a.map (·.1)) (b.map (·.1)) && T.eqbs (a.map (·.2)) (b.map (·.2))
  | _, _ => false
theorem zip_eq {a b : List (T × T)} (h1 : a.map (·.1) = b.map (·.1)) (h2 : a.map (·.2) = b.map (·.2)) : a = b := by
  induction a generalizing b with
  | nil => cases b with
    | nil => rfl
    | cons _ _ => simp at h1
  | cons x xs ih => cases b with
    | nil => simp at h1
    | cons y ys =>
      simp at h1 h2
      rw [ih h1.2 h2.2, Prod.ext h1.1 h2.1]
theorem VO.eqb_eq {a b : VO} (h : VO.eqb a b = true) : a = b := by
  cases a <;> cases b <;> simp only [VO.eqb, Bool.and_eq_true, beq_iff_eq, Bool.false_eq_true] at h
  · rw [T.eqbs_eq h]
  · rw [h.1, T.eqbs_eq h.2]
  · rw [zip_eq (T.eqbs_eq h.1) (T.eqbs_eq h.2)]
theorem VO.eqb_refl (a : VO) : VO.eqb a a = true := by
  cases a <;> simp [VO.eqb, T.eqbs_refl]
def eqH : VH → VH → Bool
  | [], [] => true
  | a :: as, b :: bs => VO.eqb a b && eqH as bs
  | _, _ => false
theorem eqH_eq : ∀ {a b : VH}, eqH a b = true → a = b
  | [], [], _ => rfl
  | [], _ :: _, h => by simp [eqH] at h
  | _ :: _, [], h => by simp [eqH] at h
  | a :: as, b :: bs, h => by
    simp only [eqH, Bool.and_eq_true] at h
    rw [VO.eqb_eq h.1, eqH_eq h.2]
theorem eqH_refl : ∀ a : VH, eqH a a = true
  | [] => rfl
  | a :: as => by simp only [eqH, VO.eqb_refl a, eqH_refl as, Bool.and_self]

/-! ### forgetting -/
section
variable {Y : Wd} {ρ ρ' : Rh} {H H' : Hp}
mutual
theorem Rp.low : ∀ {t : T} {v : V}, Rp Y ρ H t v → t.lowR ρ.ix.length = true
  | _, _, .non => rfl
  | _, _, .bl b => rfl
  | _, _, .int i => rfl
  | _, _, .str h => rfl
  | _, _, .tup h r => by simp only [T.lowR]; exact r.lows
  | _, _, .arg h r => by simp only [T.lowR]; exact r.lows
  | _, _, .lst h r => by simp only [T.lowR]; exact r.lows
  | _, _, .obj c n h nm r => by simp only [T.lowR]; exact r.lows
  | _, _, .ref h => by simp only [T.lowR]; exact decide_eq_true (List.getElem?_eq_some_iff.mp h).1
theorem Rps.lows : ∀ {ts : List T} {vs : List V}, Rps Y ρ H ts vs → lowRs ρ.ix.length ts = true
  | _, _, .nil => rfl
  | _, _, .cons a b => by simp only [lowRs, a.low, b.lows, Bool.and_self]
end
/-- ρ' is longer than ρ -/
structure Sub (ρ ρ' : Rh) : Prop where
  ix : ∃ m, ρ'.ix = ρ.ix ++ m
  bn : ρ'.bn = ρ.bn
theorem Sub.out (s : Sub ρ ρ') {a : Addr} (h : ρ'.out a) : ρ.out a := by
  obtain ⟨m, e⟩ := s.ix
  exact ⟨fun z => h.1 (by rw [e]; exact List.mem_append_left _ z), fun z => h.2 (by rw [s.bn]; exact z)⟩
mutual
theorem Rp.down (s : Sub ρ ρ') : ∀ {t : T} {v : V}, Rp Y ρ' H t v → t.lowR ρ.ix.length = true → Rp Y ρ H t v
  | _, _, .non, _ => .non
  | _, _, .bl b, _ => .bl b
  | _, _, .int i, _ => .int i
  | _, _, .str h, _ => .str h
  | _, _, .tup h r, q => by simp only [T.lowR] at q; exact .tup ⟨h.1, h.2.elim (fun z => .inl ⟨s.out z.1, z.2⟩) .inr⟩ (r.down s q)
  | _, _, .arg h r, q => by simp only [T.lowR] at q; exact .arg ⟨h.1, h.2.elim (fun z => .inl ⟨s.out z.1, z.2⟩) .inr⟩ (r.down s q)
  | _, _, .lst h r, q => by simp only [T.lowR] at q; exact .lst ⟨h.1, s.out h.2.1, h.2.2⟩ (r.down s q)
  | _, _, .obj c n h nm r, q => by simp only [T.lowR] at q; exact .obj c (s.out n) h nm (r.down s q)
  | _, _, .ref h, q => by
    simp only [T.lowR] at q
    obtain ⟨m, e⟩ := s.ix
    rw [e, List.getElem?_append_left (of_decide_eq_true q)] at h
    exact .ref h
theorem Rps.down (s : Sub ρ ρ') : ∀ {ts : List T} {vs : List V}, Rps Y ρ' H ts vs → lowRs ρ.ix.length ts = true → Rps Y ρ H ts vs
  | _, _, .nil, _ => .nil
  | _, _, .cons a b, q => by
    simp only [lowRs, Bool.and_eq_true] at q
    exact .cons (a.down s q.1) (b.down s q.2)
end
theorem OR.down (s : Sub ρ ρ') {a : Addr} {o : VO} {H0 : Hp} {a0 : Addr} (r : OR Y ρ' H a o) (q : OR Y ρ H0 a0 o) : OR Y ρ H a o := by
  cases o with
  | lst ts => obtain ⟨vs, h1, hz, h2⟩ := r; obtain ⟨_, _, _, g⟩ := q; exact ⟨vs, h1, hz, h2.down s g.lows⟩
  | ins c fs => obtain ⟨C, dx, vfs, hc, h1, hn, h2⟩ := r; obtain ⟨_, _, _, _, _, _, g⟩ := q; exact ⟨C, dx, vfs, hc, h1, hn, h2.down s g.lows⟩
  | dct kvs => obtain ⟨vk, h1, h2, h3⟩ := r; obtain ⟨_, _, g2, g3⟩ := q; exact ⟨vk, h1, h2.down s g2.lows, h3.down s g3.lows⟩
/-- the heap as it was -/
theorem HR.down {H0 : Hp} {h h' : VH} (s : Sub ρ ρ') (r : HR Y ρ' H h') (q : HR Y ρ H0 h) (e : h'.take h.length = h) : HR Y ρ H h := by
  obtain ⟨m, em⟩ := s.ix
  refine ⟨q.len, q.nd, fun a ha => ?_, fun n o a h1 h2 => ?_⟩
  · obtain ⟨b1, b2⟩ := r.bt a (by rw [s.bn]; exact ha)
    exact ⟨b1, fun z => b2 (by rw [em]; exact List.mem_append_left _ z)⟩
  · have hn : n < h.length := (List.getElem?_eq_some_iff.mp h1).1
    have h3 : h'[n]? = some o := by
      rw [← e, List.getElem?_take_of_lt hn] at h1
      exact h1
    have h4 : ρ'.ix[n]? = some a := by
      rw [em, List.getElem?_append_left (by rw [q.len]; exact hn)]
      exact h2
    exact (r.at_ n o a h3 h4).down s (q.at_ n o a h1 h2)
end
/-- a value without what is forgotten -/
def frz (n : Nat) (h : VH) : Nat → T → Option T
  | 0, t => if t.lowR n then some t else none
  | k + 1, t => if t.lowR n then some t else match t with
    | .tup ts => (ts.mapM (frz n h k)).map .tup
    | .lst ts => (ts.mapM (frz n h k)).map .lst
    | .obj c fs => (fs.mapM (frz n h k)).map (.obj c)
    | .ref j => (match h[j]? with
      | some (.lst ts) => (ts.mapM (frz n h k)).map .lst
      | some (.ins c fs) => (fs.mapM (frz n h k)).map (.obj c)
      | _ => none)
    | _ => none
section
variable {Y : Wd} {ρ ρ' : Rh} {H : Hp} {h : VH}
theorem mapM_rps {f : T → Option T} (hf : ∀ t v u, Rp Y ρ' H t v → f t = some u → Rp Y ρ H u v) : ∀ {ts : List T} {vs : List V} {us : List T}, Rps Y ρ' H ts vs → ts.mapM f = some us → Rps Y ρ H us vs
  | [], _, us, r, e => by
    cases r
    simp at e
    subst e
    exact .nil
  | t :: ts, _, us, r, e => by
    cases r with
    | cons a b =>
      rw [List.mapM_cons] at e
      cases e1 : f t with
      | none => rw [e1] at e; simp at e
      | some u =>
        rw [e1] at e
        cases e2 : ts.mapM f with
        | none => rw [e2] at e; simp at e
        | some us' =>
          rw [e2] at e
          simp at e
          subst e
          exact .cons (hf _ _ _ a e1) (mapM_rps hf b e2)
theorem frz_ok (s : Sub ρ ρ') (hr : HR Y ρ' H h) : ∀ (k : Nat) (t : T) (v : V) (u : T), Rp Y ρ' H t v → frz ρ.ix.length h k t = some u → Rp Y ρ H u v := by
  intro k
  induction k with
  | zero =>
    intro t v u r e
    unfold frz at e
    split at e
    · rename_i q; cases e; exact r.down s q
    · cases e
  | succ k ih =>
    intro t v u r e
    unfold frz at e
    split at e
    · rename_i q; cases e; exact r.down s q
    · cases r with
      | tup ta rs =>
        simp only at e
        rename_i a vs ts _
        cases e1 : ts.mapM (frz ρ.ix.length h k) with
        | none => rw [e1] at e; cases e
        | some us =>
          rw [e1] at e
          cases e
          exact .tup ⟨ta.1, ta.2.elim (fun z => .inl ⟨s.out z.1, z.2⟩) .inr⟩ (mapM_rps ih rs e1)
      | lst ta rs =>
        simp only at e
        rename_i a vs ts _
        cases e1 : ts.mapM (frz ρ.ix.length h k) with
        | none => rw [e1] at e; cases e
        | some us =>
          rw [e1] at e
          cases e
          exact .lst ⟨ta.1, s.out ta.2.1, ta.2.2⟩ (mapM_rps ih rs e1)
      | obj hc ho hh hn rs =>
        simp only at e
        rename_i c a C dx vfs fs _
        cases e1 : fs.mapM (frz ρ.ix.length h k) with
        | none => rw [e1] at e; cases e
        | some us =>
          rw [e1] at e
          cases e
          have r2 := mapM_rps ih rs e1
          have hl : us.length = fs.length := by rw [← r2.length, rs.length]
          exact .obj hc (s.out ho) hh (by rw [hl]; exact hn) r2
      | ref ha =>
        simp only at e
        rename_i j a q0
        have hj : ¬ j < ρ.ix.length := fun z => q0 (by simp only [T.lowR]; exact decide_eq_true z)
        have out : ρ.out a := by
          obtain ⟨m, em⟩ := s.ix
          refine ⟨fun z => ?_, fun z => (hr.bt a (by rw [s.bn]; exact z)).2 (List.mem_of_getElem? ha)⟩
          obtain ⟨i, hi, ei⟩ := List.getElem_of_mem z
          have e1 : ρ'.ix[i]? = some a := by rw [em, List.getElem?_append_left hi, List.getElem?_eq_getElem hi, ei]
          obtain ⟨w1, f1⟩ := List.getElem?_eq_some_iff.mp e1
          obtain ⟨w2, f2⟩ := List.getElem?_eq_some_iff.mp ha
          have : i = j := (List.getElem_inj hr.nd).mp (f1.trans f2.symm)
          omega
        cases eo : h[j]? with
        | none => rw [eo] at e; cases e
        | some o =>
          rw [eo] at e
          have q := hr.at_ j o a eo ha
          cases o with
          | lst ts =>
            simp only at e
            obtain ⟨vs, h1, hz, rs⟩ := q
            cases e1 : ts.mapM (frz ρ.ix.length h k) with
            | none => rw [e1] at e; cases e
            | some us =>
              rw [e1] at e
              cases e
              exact .lst ⟨hz, out, h1⟩ (mapM_rps ih rs e1)
          | ins c fs =>
            simp only at e
            obtain ⟨C, dx, vfs, hc, h1, hn, rs⟩ := q
            cases e1 : fs.mapM (frz ρ.ix.length h k) with
            | none => rw [e1] at e; cases e
            | some us =>
              rw [e1] at e
              cases e
              have r2 := mapM_rps ih rs e1
              have hl : us.length = fs.length := by rw [← r2.length, rs.length]
              exact .obj hc out h1 (by rw [hl]; exact hn) r2
          | dct kvs => cases e
      | _ => cases e
end
/-- a def that leaves what stood as it was: its new things are forgotten, but what it hands back -/
def pureM (m : List T → VH → Res T) : List T → VH → Res T := fun ts h => match m ts h with
  | .ok t h' => if eqH (h'.take h.length) h then (match frz h.length h' 4 t with
    | some u => .ok u h
    | none => .bad) else .bad
  | .bad => .bad
theorem spM_pure {Y : Wd} {m : List T → VH → Res T} {vs : List V} {H : Hp} {Q : VK} {E : XK} (q : spM Y (pureM m) vs H Q E) : spM Y m vs H Q E := by
  obtain ⟨ρ, ts, h, u, h1, r, hr, e, to⟩ := q
  unfold pureM at e
  split at e
  · rename_i t h' em
    split at e
    · rename_i hq
      split at e
      · rename_i u' ef
        cases e
        refine ⟨ρ, ts, _, t, h', r, hr, em, ⟨fun ρ' H' v ev hr' rv => ?_⟩⟩
        have s : Sub ρ ρ' := ⟨let ⟨m, e, _⟩ := ev.more; ⟨m, e⟩, ev.bn⟩
        have ex : Ev ρ H ρ H' := .mk' ⟨[], by simp⟩ rfl ev.keep ev.there
        refine to.to ρ H' v ex (hr'.down s hr (eqH_eq hq)) (frz_ok s hr' 4 t v _ rv (by rw [hr.len]; exact ef))
      · cases e
    · cases e
  · cases e
theorem fnPure {P : Program} {w : World} {K : PySem.W.Frag} {mg : Str → Option Value} {base : Heap} {k : Nat} {f : Addr} {fd : FuncData} {ps : List Str} {Y : Wd} {m : List T → VH → Res T} (F : FnOk P w K mg base CX0 k f fd ps (spM Y m)) : FnOk P w K mg base CX0 k f fd ps (spM Y (pureM m)) :=
  F.imp fun _ _ _ _ q => spM_pure q
end TL

set_option Elab.async false
set_option linter.all false
set_option maxRecDepth 100000
set_option maxHeartbeats 4000000
namespace TL
open PySem PySem.Spec L2
/-! ### tree values as data -/
def T.dat (h : VH) : Nat → T → Option PyData
  | _, .non => some .none
  | _, .bl b => some (.bool b)
  | _, .int i => some (.int i)
  | _, .str x => some (.str x)
  | k + 1, .tup ts => (ts.mapM (T.dat h k)).map .tuple
  | k + 1, .lst ts => (ts.mapM (T.dat h k)).map .list
  | k + 1, .ref n => match h[n]? with
    | some (.lst ts) => (ts.mapM (T.dat h k)).map .list
    | _ => none
  | _, _ => none
theorem dats_ok {Y : Wd} {ρ : Rh} {H : Hp} {f : T → Option PyData} {k : Nat} (hf : ∀ t v d, Rp Y ρ H t v → f t = some d → Dp Y.K H v d ∧ d.plain = true ∧ d.depth ≤ k) :
    ∀ {ts : List T} {vs : List V} {ds : List PyData}, Rps Y ρ H ts vs → ts.mapM f = some ds → DpAll Y.K H vs ds ∧ PyData.plainAll ds = true ∧ PyData.depthAll ds ≤ k
  | [], _, ds, r, e => by
    cases r
    simp at e
    subst e
    exact ⟨.nil, rfl, Nat.zero_le _⟩
  | t :: ts, _, ds, r, e => by
    cases r with
    | cons a b =>
      rw [List.mapM_cons] at e
      cases e1 : f t with
      | none => rw [e1] at e; simp at e
      | some u =>
        rw [e1] at e
        cases e2 : ts.mapM f with
        | none => rw [e2] at e; simp at e
        | some us' =>
          rw [e2] at e
          simp at e
          subst e
          obtain ⟨q1, q2, q3⟩ := hf _ _ _ a e1
          obtain ⟨p1, p2, p3⟩ := dats_ok hf b e2
          exact ⟨.cons q1 p1, by rw [PyData.plainAll, q2, p2]; rfl, by rw [PyData.depthAll]; exact Nat.max_le.mpr ⟨q3, p3⟩⟩
theorem dat_ok {Y : Wd} {ρ : Rh} {H : Hp} {h : VH} (hr : HR Y ρ H h) : ∀ (k : Nat) (t : T) (v : V) (d : PyData), Rp Y ρ H t v → T.dat h k t = some d → Dp Y.K H v d ∧ d.plain = true ∧ d.depth ≤ k := by
  intro k
  induction k with
  | zero =>
    intro t v d r e
    cases r with
    | non => simp [T.dat] at e; subst e; exact ⟨.non, rfl, Nat.le_refl _⟩
    | bl b => simp [T.dat] at e; subst e; exact ⟨.bl b, rfl, Nat.le_refl _⟩
    | int i => simp [T.dat] at e; subst e; exact ⟨.int i, rfl, Nat.le_refl _⟩
    | str hx => simp [T.dat] at e; subst e; exact ⟨.str _, rfl, Nat.le_refl _⟩
    | _ => simp [T.dat] at e
  | succ k ih =>
    intro t v d r e
    cases r with
    | non => simp [T.dat] at e; subst e; exact ⟨.non, rfl, Nat.zero_le _⟩
    | bl b => simp [T.dat] at e; subst e; exact ⟨.bl b, rfl, Nat.zero_le _⟩
    | int i => simp [T.dat] at e; subst e; exact ⟨.int i, rfl, Nat.zero_le _⟩
    | str hx => simp [T.dat] at e; subst e; exact ⟨.str _, rfl, Nat.zero_le _⟩
    | tup ta rs =>
      simp only [T.dat, Option.map_eq_some_iff] at e
      obtain ⟨ds, e1, rfl⟩ := e
      obtain ⟨q1, q2, q3⟩ := dats_ok (ih) rs e1
      exact ⟨.tup ta.sq q1, by simp only [PyData.plain]; exact q2, by rw [PyData.depth]; omega⟩
    | lst ta rs =>
      simp only [T.dat, Option.map_eq_some_iff] at e
      obtain ⟨ds, e1, rfl⟩ := e
      obtain ⟨q1, q2, q3⟩ := dats_ok (ih) rs e1
      exact ⟨.lst ta.sq q1, by simp only [PyData.plain]; exact q2, by rw [PyData.depth]; omega⟩
    | obj _ _ _ _ _ => simp [T.dat] at e
    | arg _ _ => simp [T.dat] at e
    | @ref n a ha =>
      unfold T.dat at e
      split at e
      · rename_i ts eo
        simp only [Option.map_eq_some_iff] at e
        obtain ⟨ds, e1, rfl⟩ := e
        obtain ⟨vs, h1, hz, rs⟩ := hr.at_ n _ a eo ha
        obtain ⟨q1, q2, q3⟩ := dats_ok (ih) rs e1
        exact ⟨.lst (.of h1) q1, by simp only [PyData.plain]; exact q2, by rw [PyData.depth]; omega⟩
      · cases e
/-! ### rules of my own by values -/
section
variable {X : Cx}
def rEqP (K : PySem.W.Frag) (g : PyData → PyData → Bool) : R2 := fun x y H Q => ∃ d e, Dp K H x d ∧ Dp K H y e ∧ d.plain = true ∧ e.plain = true ∧ d.depth ≤ 12 ∧ Q (.bl (g d e)) H
theorem op_eqP (hu : X.A.units + 80 < cLine) : OpR X (compareOp .Eq) (rEqP X.K fun d e => PyData.eqv d e) := by
  intro pins s σ H x y v u Q I rx ry h
  obtain ⟨d, e, hd, he, sd, se, hz, q⟩ := h
  obtain ⟨as, r1⟩ := Dp.reads I d x v hd rx
  obtain ⟨bs, r2⟩ := Dp.reads I e y u he ry
  exact SeqAt.eq_plain r1 r2 sd se (by omega) ⟨.bl _, H, I, rfl, q⟩
theorem op_neP (hu : X.A.units + 80 < cLine) : OpR X (compareOp .NotEq) (rEqP X.K fun d e => !PyData.eqv d e) := by
  intro pins s σ H x y v u Q I rx ry h
  obtain ⟨d, e, hd, he, sd, se, hz, q⟩ := h
  obtain ⟨as, r1⟩ := Dp.reads I d x v hd rx
  obtain ⟨bs, r2⟩ := Dp.reads I e y u he ry
  exact SeqAt.ne_plain r1 r2 sd se (by omega) ⟨.bl _, H, I, rfl, q⟩
def rInP (K : PySem.W.Frag) (neg : Bool) : R2 := fun x y H Q => ∃ d ds, Dp K H x d ∧ (Dp K H y (.list ds) ∨ Dp K H y (.tuple ds)) ∧ d.plain = true ∧ PyData.plainAll ds = true ∧ d.depth ≤ 12 ∧ Q (.bl (neg != ds.any fun z => PyData.eqv z d)) H
theorem op_inP (hu : X.A.units + 80 < cLine) : OpR X (compareOp .In) (rInP X.K false) := by
  intro pins s σ H x y v u Q I rx ry h
  obtain ⟨d, ds, hd, he, sd, se, hz, q⟩ := h
  obtain ⟨as, r1⟩ := Dp.reads I d x v hd rx
  rw [Bool.false_bne] at q
  rcases he with he | he
  · obtain ⟨bs, r2⟩ := Dp.reads I _ y u he ry
    exact SeqAt.in_list_data r2 r1 se sd (by omega) ⟨.bl _, H, I, rfl, q⟩
  · obtain ⟨bs, r2⟩ := Dp.reads I _ y u he ry
    exact SeqAt.in_tuple_data r2 r1 se sd (by omega) ⟨.bl _, H, I, rfl, q⟩
theorem op_ninP (hu : X.A.units + 80 < cLine) : OpR X (compareOp .NotIn) (rInP X.K true) := by
  intro pins s σ H x y v u Q I rx ry h
  obtain ⟨d, ds, hd, he, sd, se, hz, q⟩ := h
  obtain ⟨as, r1⟩ := Dp.reads I d x v hd rx
  rw [Bool.true_bne] at q
  rcases he with he | he
  · obtain ⟨bs, r2⟩ := Dp.reads I _ y u he ry
    exact SeqAt.notIn_list_data r2 r1 se sd (by omega) ⟨.bl _, H, I, rfl, q⟩
  · obtain ⟨bs, r2⟩ := Dp.reads I _ y u he ry
    exact SeqAt.notIn_tuple_data r2 r1 se sd (by omega) ⟨.bl _, H, I, rfl, q⟩
def rOrd (K : PySem.W.Frag) (g : PyData → PyData → Bool) : R2 := fun x y H Q => ∃ d e, Dp K H x d ∧ Dp K H y e ∧ PySem.W.alike d e = true ∧ d ≠ .none ∧ d.depth ≤ 12 ∧ Q (.bl (g d e)) H

theorem op_ltP (hu : X.A.units + 80 < cLine) : OpR X (compareOp .Lt) (rOrd X.K fun d e => PySem.W.dataLt d e) := by
  intro pins s σ H x y v u Q I rx ry h
  obtain ⟨d, e, hd, he, sd, se, hz, q⟩ := h
  obtain ⟨as, r1⟩ := Dp.reads I d x v hd rx
  obtain ⟨bs, r2⟩ := Dp.reads I e y u he ry
  exact PySem.W.lt_data r1 r2 sd se (by omega) ⟨.bl _, H, I, rfl, q⟩
theorem op_leP (hu : X.A.units + 80 < cLine) : OpR X (compareOp .LtE) (rOrd X.K fun d e => !PySem.W.dataLt e d) := by
  intro pins s σ H x y v u Q I rx ry h
  obtain ⟨d, e, hd, he, sd, se, hz, q⟩ := h
  obtain ⟨as, r1⟩ := Dp.reads I d x v hd rx
  obtain ⟨bs, r2⟩ := Dp.reads I e y u he ry
  exact PySem.W.le_data r1 r2 sd se (by omega) ⟨.bl _, H, I, rfl, q⟩
theorem op_gtP (hu : X.A.units + 80 < cLine) : OpR X (compareOp .Gt) (rOrd X.K fun d e => PySem.W.dataLt e d) := by
  intro pins s σ H x y v u Q I rx ry h
  obtain ⟨d, e, hd, he, sd, se, hz, q⟩ := h
  obtain ⟨as, r1⟩ := Dp.reads I d x v hd rx
  obtain ⟨bs, r2⟩ := Dp.reads I e y u he ry
  exact PySem.W.gt_data r1 r2 sd se (by omega) ⟨.bl _, H, I, rfl, q⟩
theorem op_geP (hu : X.A.units + 80 < cLine) : OpR X (compareOp .GtE) (rOrd X.K fun d e => !PySem.W.dataLt d e) := by
  intro pins s σ H x y v u Q I rx ry h
  obtain ⟨d, e, hd, he, sd, se, hz, q⟩ := h
  obtain ⟨as, r1⟩ := Dp.reads I d x v hd rx
  obtain ⟨bs, r2⟩ := Dp.reads I e y u he ry
  exact PySem.W.ge_data r1 r2 sd se (by omega) ⟨.bl _, H, I, rfl, q⟩
end
/-! ### two-place operations -/
section
variable {X : Cx} {Y : Wd}
theorem OT.or {r r' : R2} {b : T → T → VH → Res T} (h : ∀ ρ H t1 t2 v1 v2 h t h' Q, Rp Y ρ H t1 v1 → Rp Y ρ H t2 v2 → HR Y ρ H h → b t1 t2 h = .ok t h' → To Y (Rp Y) ρ H t h' Q → r v1 v2 H Q ∨ r' v1 v2 H Q) : OT Y (fun x y H Q => r x y H Q ∨ r' x y H Q) b := h
def bEqG (g : PyData → PyData → Bool) : T → T → VH → Res T := fun a b h => match a.dat h 10, b.dat h 10 with
  | some x, some y => .ok (.bl (g x y)) h
  | _, _ => .bad
def bEq := bEqG fun d e => PyData.eqv d e
def bNe := bEqG fun d e => !PyData.eqv d e
theorem ot_eqG (g : PyData → PyData → Bool) : OT Y (rEqP Y.K g) (bEqG g) := fun ρ H t1 t2 v1 v2 h t h' Q r1 r2 hr e to => by
  unfold bEqG at e
  split at e
  · rename_i x y e1 e2
    cases e
    obtain ⟨p1, p2, p3⟩ := dat_ok hr _ _ _ _ r1 e1
    obtain ⟨q1, q2, q3⟩ := dat_ok hr _ _ _ _ r2 e2
    exact ⟨x, y, p1, q1, p2, q2, by omega, to.to ρ H _ .refl hr (.bl _)⟩
  · cases e
def notNone : PyData → Bool
  | .none => false
  | _ => true
theorem notNone_ne {d : PyData} (h : notNone d = true) : d ≠ .none := fun z => by subst z; cases h
def bOrdD (g : PyData → PyData → Bool) (a b : T) (h : VH) : Res T := match a.dat h 10, b.dat h 10 with
  | some x, some y => if (PySem.W.alike x y && notNone x) = true then .ok (.bl (g x y)) h else .bad
  | _, _ => .bad
def bOrdG (g : PyData → PyData → Bool) (gi : Int → Int → Bool) (a b : T) (h : VH) : Res T := match a, b with
  | .int i, .int j => .ok (.bl (gi i j)) h
  | a, b => bOrdD g a b h
def bLt := bOrdG (fun d e => PySem.W.dataLt d e) fun i j => decide (i < j)
def bLe := bOrdG (fun d e => !PySem.W.dataLt e d) fun i j => decide (i ≤ j)
def bGt := bOrdG (fun d e => PySem.W.dataLt e d) fun i j => decide (j < i)
def bGe := bOrdG (fun d e => !PySem.W.dataLt d e) fun i j => decide (j ≤ i)
def rO (K : PySem.W.Frag) (g : PyData → PyData → Bool) (gi : Int → Int → Bool) : R2 := fun x y H Q => rI0 (fun i j => .bl (gi i j)) x y H Q ∨ rOrd K g x y H Q
theorem ot_ord (g : PyData → PyData → Bool) (gi : Int → Int → Bool) : OT Y (rO Y.K g gi) (bOrdG g gi) := fun ρ H t1 t2 v1 v2 h t h' Q r1 r2 hr e to => by
  unfold bOrdG at e
  split at e
  · cases e
    cases r1
    cases r2
    exact .inl ⟨_, _, rfl, rfl, to.to ρ H _ .refl hr (.bl _)⟩
  · unfold bOrdD at e
    split at e
    · rename_i x y e1 e2
      split at e
      · rename_i c
        cases e
        rw [Bool.and_eq_true] at c
        obtain ⟨p1, p2, p3⟩ := dat_ok hr _ _ _ _ r1 e1
        obtain ⟨q1, q2, q3⟩ := dat_ok hr _ _ _ _ r2 e2
        exact .inr ⟨x, y, p1, q1, c.1, notNone_ne c.2, by omega, to.to ρ H _ .refl hr (.bl _)⟩
      · cases e
    · cases e
theorem oLt (hu : X.A.units + 80 < cLine) : OpR X (compareOp .Lt) (rO X.K (fun d e => PySem.W.dataLt d e) fun i j => decide (i < j)) := op_lt.or (op_ltP hu)
theorem oLe (hu : X.A.units + 80 < cLine) : OpR X (compareOp .LtE) (rO X.K (fun d e => !PySem.W.dataLt e d) fun i j => decide (i ≤ j)) := op_le.or (op_leP hu)
theorem oGt (hu : X.A.units + 80 < cLine) : OpR X (compareOp .Gt) (rO X.K (fun d e => PySem.W.dataLt e d) fun i j => decide (j < i)) := op_gt.or (op_gtP hu)
theorem oGe (hu : X.A.units + 80 < cLine) : OpR X (compareOp .GtE) (rO X.K (fun d e => !PySem.W.dataLt d e) fun i j => decide (j ≤ i)) := op_ge.or (op_geP hu)

/-! in, not in -/
def bInS (neg : Bool) (a b : Str) : Bool := neg != !(Builtin.Str.occurrences b a 0 b.length 1).isEmpty
def bInG (neg : Bool) (a b : T) (h : VH) : Res T := match a, b with
  | .str x, .str y => .ok (.bl (bInS neg x y)) h
  | a, b => match a.dat h 10, b.dat h 11 with
    | some d, some (.list ds) => .ok (.bl (neg != ds.any fun z => PyData.eqv z d)) h
    | some d, some (.tuple ds) => .ok (.bl (neg != ds.any fun z => PyData.eqv z d)) h
    | _, _ => .bad
def bIn := bInG false
def bNin := bInG true
def rInA (K : PySem.W.Frag) (neg : Bool) : R2 := fun x y H Q => (∃ i j, x = .str i ∧ y = .str j ∧ Q (.bl (bInS neg i j)) H) ∨ rInP K neg x y H Q
theorem ot_in (neg : Bool) : OT Y (rInA Y.K neg) (bInG neg) := fun ρ H t1 t2 v1 v2 h t h' Q r1 r2 hr e to => by
  unfold bInG at e
  split at e
  · cases e
    cases r1
    cases r2
    exact .inl ⟨_, _, rfl, rfl, to.to ρ H _ .refl hr (.bl _)⟩
  · split at e
    · rename_i d ds e1 e2
      cases e
      obtain ⟨p1, p2, p3⟩ := dat_ok hr _ _ _ _ r1 e1
      obtain ⟨q1, q2, q3⟩ := dat_ok hr _ _ _ _ r2 e2
      exact .inr ⟨d, ds, p1, .inl q1, p2, by simpa only [PyData.plain] using q2, by omega, to.to ρ H _ .refl hr (.bl _)⟩
    · rename_i d ds e1 e2
      cases e
      obtain ⟨p1, p2, p3⟩ := dat_ok hr _ _ _ _ r1 e1
      obtain ⟨q1, q2, q3⟩ := dat_ok hr _ _ _ _ r2 e2
      exact .inr ⟨d, ds, p1, .inr q1, p2, by simpa only [PyData.plain] using q2, by omega, to.to ρ H _ .refl hr (.bl _)⟩
    · cases e
theorem oIn (hu : X.A.units + 80 < cLine) : OpR X (compareOp .In) (rInA X.K false) := by
  refine OpR.or (r := fun x y H Q => ∃ i j, x = .str i ∧ y = .str j ∧ Q (.bl (bInS false i j)) H) (fun pins s σ H x y v u Q I rx ry h => ?_) (op_inP hu)
  obtain ⟨i, j, e1, e2, q⟩ := h
  exact op_in_str pins s σ H x y v u Q I rx ry ⟨i, j, e1, e2, by unfold bInS at q; rw [Bool.false_bne] at q; exact q⟩
theorem oNin (hu : X.A.units + 80 < cLine) : OpR X (compareOp .NotIn) (rInA X.K true) := by
  refine OpR.or (r := fun x y H Q => ∃ i j, x = .str i ∧ y = .str j ∧ Q (.bl (bInS true i j)) H) (fun pins s σ H x y v u Q I rx ry h => ?_) (op_ninP hu)
  obtain ⟨i, j, e1, e2, q⟩ := h
  exact op_notIn_str pins s σ H x y v u Q I rx ry ⟨i, j, e1, e2, by unfold bInS at q; rw [Bool.true_bne] at q; exact q⟩

/-! is None, is not None -/
def isNon : T → Bool
  | .non => true
  | _ => false
def bIsG (neg : Bool) (a b : T) (h : VH) : Res T := match b with
  | .non => .ok (.bl (neg != isNon a)) h
  | _ => .bad
def bIs := bIsG false
def bIsn := bIsG true
theorem isNon_ok {ρ : Rh} {H : Hp} {t : T} {v : V} (r : Rp Y ρ H t v) : isNon t = decide (v = .non) := by cases r <;> simp [isNon]
theorem ot_is : OT Y (fun x y H Q => y = V.non ∧ Q (.bl (decide (x = V.non))) H) bIs := fun ρ H t1 t2 v1 v2 h t h' Q r1 r2 hr e to => by
  unfold bIs bIsG at e
  split at e
  · cases e
    cases r2
    exact ⟨rfl, to.to ρ H _ .refl hr (by rw [Bool.false_bne, isNon_ok r1]; exact .bl _)⟩
  · cases e
theorem ot_isn : OT Y (fun x y H Q => y = V.non ∧ Q (.bl (!decide (x = V.non))) H) bIsn := fun ρ H t1 t2 v1 v2 h t h' Q r1 r2 hr e to => by
  unfold bIsn bIsG at e
  split at e
  · cases e
    cases r2
    exact ⟨rfl, to.to ρ H _ .refl hr (by rw [Bool.true_bne, isNon_ok r1]; exact .bl _)⟩
  · cases e

/-! numbers -/
def bI (c : Int → Int → Bool) (g : Int → Int → Int) (a b : T) (h : VH) : Res T := match a, b with
  | .int i, .int j => if c i j = true then .ok (.int (g i j)) h else .bad
  | _, _ => .bad
def bI0 (g : Int → Int → Int) (a b : T) (h : VH) : Res T := match a, b with
  | .int i, .int j => .ok (.int (g i j)) h
  | _, _ => .bad
theorem ot_I0 (g : Int → Int → Int) : OT Y (rI0 fun i j => .int (g i j)) (bI0 g) := fun ρ H t1 t2 v1 v2 h t h' Q r1 r2 hr e to => by
  unfold bI0 at e
  split at e
  · cases e
    cases r1
    cases r2
    exact ⟨_, _, rfl, rfl, to.to ρ H _ .refl hr (.int _)⟩
  · cases e
theorem ot_I {C : Int → Int → Prop} {c : Int → Int → Bool} (g : Int → Int → Int) (hc : ∀ i j, c i j = true → C i j) : OT Y (rI C fun i j => .int (g i j)) (bI c g) := fun ρ H t1 t2 v1 v2 h t h' Q r1 r2 hr e to => by
  unfold bI at e
  split at e
  · split at e
    · rename_i c'
      cases e
      cases r1
      cases r2
      exact ⟨_, _, rfl, rfl, hc _ _ c', to.to ρ H _ .refl hr (.int _)⟩
    · cases e
  · cases e
def bSub := bI0 fun i j => i - j
def bAnd' := bI0 fun i j => Builtin.bitAnd i j
def bMod := bI (fun _ j => decide (0 < j)) fun i j => i % j
def bFdv := bI (fun i j => decide (0 < j) && decide (j < 1073741824)) fun i j => i / j
def bPow := bI (fun i j => decide (0 ≤ j) && decide (j ≤ 1000) && decide (i.natAbs < 1000000)) fun i j => i ^ j.toNat
def cMul (i j : Int) : Bool := (decide (-1000000000000000000 < i) && decide (i < 1000000000000000000)) || (decide (-1000000000000000000 < j) && decide (j < 1000000000000000000))
theorem ot_sub : OT Y (rI0 fun i j => .int (i - j)) bSub := ot_I0 _
theorem ot_and : OT Y (rI0 fun i j => .int (Builtin.bitAnd i j)) bAnd' := ot_I0 _
theorem ot_mod : OT Y (rI (fun x j => 0 < j) fun i j => .int (i % j)) bMod := ot_I _ fun i j h => of_decide_eq_true h
theorem ot_fdv : OT Y (rI CDiv fun i j => .int (i / j)) bFdv := ot_I _ fun i j h => by rw [Bool.and_eq_true] at h; exact ⟨of_decide_eq_true h.1, of_decide_eq_true h.2⟩
theorem ot_pow : OT Y (rI CPow fun i j => .int (i ^ j.toNat)) bPow := ot_I _ fun i j h => by
  rw [Bool.and_eq_true, Bool.and_eq_true] at h
  have h1 := of_decide_eq_true h.1.1
  have h2 := of_decide_eq_true h.1.2
  have h3 := of_decide_eq_true h.2
  exact ⟨h1, by omega, by omega⟩
theorem cMul_ok {i j : Int} (h : cMul i j = true) : CMul i j := by
  unfold cMul at h
  rw [Bool.or_eq_true, Bool.and_eq_true, Bool.and_eq_true] at h
  rcases h with h | h
  · have h1 := of_decide_eq_true h.1
    have h2 := of_decide_eq_true h.2
    exact .inl ⟨by omega, by omega⟩
  · have h1 := of_decide_eq_true h.1
    have h2 := of_decide_eq_true h.2
    exact .inr ⟨by omega, by omega⟩

/-! + -/
def bAdd (a b : T) (h : VH) : Res T := match a, b with
  | .int i, .int j => .ok (.int (i + j)) h
  | .str x, .str y => if x.length + y.length ≤ 1000000 then .ok (.str (x ++ y)) h else .bad
  | .tup x, .tup y => if x.length + y.length ≤ 16777216 then .ok (.tup (x ++ y)) h else .bad
  | a, b => match listOf h a, listOf h b with
    | some x, some y => if x.length + y.length ≤ 16777216 then .ok (.lst (x ++ y)) h else .bad
    | _, _ => .bad
def rAddS : R2 := fun x y H Q => ∃ i j, x = .str i ∧ y = .str j ∧ i.length + j.length ≤ sizeLine ∧ Q (.str (i ++ j)) H
def rAdd (K : PySem.W.Frag) : R2 := fun x y H Q => rI0 (fun i j => .int (i + j)) x y H Q ∨ rAddS x y H Q ∨ rCatA K x y H Q ∨ rCat x y H Q
theorem oAdd : OpR X (binaryOp .Add) (rAdd X.K) := op_add.or (OpR.or (r := rAddS) op_add_str (op_catA.or op_cat))
theorem len_app (x y : Str) : (x ++ y).length = x.length + y.length := by
  show (x.cps ++ y.cps).size = _
  rw [Array.size_append]; rfl
theorem newL' {ρ : Rh} {H : Hp} {h : VH} {ts : List T} {vs : List V} {D : Addr} (hr : HR Y ρ H h) (rs : Rps Y ρ H ts vs) (hz : vs.length ≤ sizeLine) (hD : H D = none) : HR Y ρ (upd H D (.lst vs)) h ∧ Rp Y ρ (upd H D (.lst vs)) (.lst ts) (.ref D) :=
  let ⟨a, b, c, _⟩ := newL hr rs hz hD
  ⟨a, .lst b c⟩
theorem ot_add : OT Y (rAdd Y.K) bAdd := fun ρ H t1 t2 v1 v2 h t h' Q r1 r2 hr e to => by
  unfold bAdd at e
  split at e
  · cases e
    cases r1
    cases r2
    exact .inl ⟨_, _, rfl, rfl, to.to ρ H _ .refl hr (.int _)⟩
  · split at e
    · rename_i hz
      cases e
      cases r1
      cases r2
      exact .inr (.inl ⟨_, _, rfl, rfl, by rw [sizeLine_eq]; omega, to.to ρ H _ .refl hr (.str (by rw [len_app]; exact hz))⟩)
    · cases e
  · split at e
    · rename_i hz
      cases e
      cases r1 with
      | tup ta ra =>
        cases r2 with
        | tup tb rb =>
          refine .inr (.inr (.inl ⟨_, _, _, _, rfl, rfl, ta.sq, tb.sq, by rw [ra.length, rb.length, sizeLine_eq]; exact hz, fun z => ?_, fun z0 z => ?_, fun _ _ p hp => ?_⟩))
          · subst z
            cases ra
            exact to.to ρ H _ .refl hr (.tup tb rb)
          · subst z
            cases rb
            rw [List.append_nil] at to
            exact to.to ρ H _ .refl hr (.tup ta ra)
          · obtain ⟨n1, n2⟩ := newT hr (ra.append rb) (by rw [List.length_append, ra.length, rb.length, sizeLine_eq]; exact hz) hp
            exact to.to ρ _ _ (Ev.new hp) n1 n2
    · cases e
  · split at e
    · rename_i x y e1 e2
      split at e
      · rename_i hz
        cases e
        obtain ⟨a, va, rfl, ha, hza, ra⟩ := listOf_ok' r1 hr e1
        obtain ⟨b, vb, rfl, hb, hzb, rb⟩ := listOf_ok' r2 hr e2
        have hl : va.length + vb.length ≤ sizeLine := by rw [ra.length, rb.length, sizeLine_eq]; exact hz
        refine .inr (.inr (.inr ⟨a, b, va, vb, rfl, rfl, ha, hb, hl, fun p hp => ?_⟩))
        obtain ⟨n1, n2⟩ := newL' hr (ra.append rb) (by rw [List.length_append]; exact hl) hp
        exact to.to ρ _ _ (Ev.new hp) n1 n2
      · cases e
    · cases e
/-! * -/
theorem Rps.rep {ρ : Rh} {H : Hp} {ts : List T} {vs : List V} (r : Rps Y ρ H ts vs) : ∀ k : Nat, Rps Y ρ H (List.replicate k ts).flatten (List.replicate k vs).flatten
  | 0 => .nil
  | k + 1 => by
    simp only [List.replicate_succ, List.flatten_cons]
    exact r.append (r.rep k)
theorem rep_len {α : Type} (l : List α) (k : Nat) : (List.replicate k l).flatten.length = k * l.length := by simp
def bMul (a b : T) (h : VH) : Res T := match a, b with
  | .int i, .int j => if cMul i j = true then .ok (.int (i * j)) h else .bad
  | a, .int k => match listOf h a with
    | some x => if x.length * k.toNat ≤ 16777216 ∧ -1000000000 ≤ k ∧ k ≤ 1000000000 then .ok (.lst (List.replicate k.toNat x).flatten) h else .bad
    | _ => .bad
  | _, _ => .bad
def rMul : R2 := fun x y H Q => rI CMul (fun i j => .int (i * j)) x y H Q ∨ rRep x y H Q
theorem oMul : OpR X (binaryOp .Mult) rMul := op_mul.or op_rep
theorem ot_mul : OT Y rMul bMul := fun ρ H t1 t2 v1 v2 h t h' Q r1 r2 hr e to => by
  unfold bMul at e
  split at e
  · split at e
    · rename_i c
      cases e
      cases r1
      cases r2
      exact .inl ⟨_, _, rfl, rfl, cMul_ok c, to.to ρ H _ .refl hr (.int _)⟩
    · cases e
  · split at e
    · rename_i x e1
      split at e
      · rename_i hz
        cases e
        cases r2
        obtain ⟨a, va, rfl, ha, hza, ra⟩ := listOf_ok' r1 hr e1
        have hl := hz.1
        rw [← ra.length, ← sizeLine_eq] at hl
        refine .inr ⟨a, _, va, rfl, rfl, ha, by omega, by omega, hl, fun p hp => ?_⟩
        obtain ⟨n1, n2⟩ := newL' hr (ra.rep _) (by rw [rep_len, Nat.mul_comm]; exact hl) hp
        exact to.to ρ _ _ (Ev.new hp) n1 n2
      · cases e
    · cases e
  · cases e
/-! subscripts -/
theorem atI_rps {ρ : Rh} {H : Hp} {ts : List T} {vs : List V} {i : Int} {t : T} (r : Rps Y ρ H ts vs) (e : atI ts i = some t) : ∃ v, atI vs i = some v ∧ Rp Y ρ H t v := by
  unfold atI at e ⊢
  rw [r.length]
  cases q : ixN ts.length i with
  | none => rw [q] at e; cases e
  | some j => rw [q] at e; exact r.get e
def bIx (a b : T) (h : VH) : Res T := match a, b with
  | .tup ts, .int i => (match atI ts i with
    | some t => .ok t h
    | none => .bad)
  | .arg ts, .int i => (match atI ts i with
    | some t => .ok t h
    | none => .bad)
  | .str z, .int i => (match atI z.cps.toList i with
    | some c => .ok (.str ⟨#[c]⟩) h
    | none => .bad)
  | a, .int i => (match listOf h a with
    | some ts => (match atI ts i with
      | some t => .ok t h
      | none => .bad)
    | none => .bad)
  | _, _ => .bad
theorem ot_ix : OT Y (rIx Y.K) bIx := fun ρ H t1 t2 v1 v2 h t h' Q r1 r2 hr e to => by
  unfold bIx at e
  split at e
  · split at e
    · rename_i q
      cases e
      cases r2
      cases r1 with
      | tup ta rs =>
        obtain ⟨v, ev, rv⟩ := atI_rps rs q
        exact .inr (.inl ⟨_, _, _, v, rfl, rfl, ta.sq, ev, to.to ρ H _ .refl hr rv⟩)
    · cases e
  · split at e
    · rename_i q
      cases e
      cases r2
      cases r1 with
      | arg ta rs =>
        obtain ⟨v, ev, rv⟩ := atI_rps rs q
        exact .inl ⟨_, _, _, v, rfl, rfl, ta.sq, ev, to.to ρ H _ .refl hr rv⟩
    · cases e
  · split at e
    · rename_i q
      cases e
      cases r2
      cases r1 with
      | str hz => exact .inr (.inr ⟨_, _, _, rfl, rfl, by rw [sizeLine_eq]; omega, q, to.to ρ H _ .refl hr (.str (by show (#[_] : Array Nat).size ≤ _; simp))⟩)
    · cases e
  · split at e
    · rename_i x e1
      split at e
      · rename_i q
        cases e
        cases r2
        obtain ⟨a, va, rfl, ha, hza, ra⟩ := listOf_ok r1 hr e1
        obtain ⟨v, ev, rv⟩ := atI_rps ra q
        exact .inl ⟨_, _, _, v, rfl, rfl, ha, ev, to.to ρ H _ .refl hr rv⟩
      · cases e
    · cases e
  · cases e
theorem xIx {a b : Expr} {f g : ME} {pos : Pos} (hK : X.K = Y.K) (ha : PE X a (TM Y f)) (hb : PE X b (TM Y g)) (hs : PlainIx b) : PE X (.Subscript a b pos) (TM Y (eOp bIx f g)) :=
  pe_imp (pe_ix (by rw [← hK]; exact ix_seq) ha hb hs) fun σ H Q q => tm_op ot_ix q
/-! slices -/
abbrev MO := TS_ → VH → Res (Option Int)
def TMO (Y : Wd) (f : MO) : TO := fun σ H Q => ∃ ρ τ h t h', Go Y ρ H τ σ h ∧ f τ h = .ok t h' ∧ To Y (fun _ _ a b => a = b) ρ H t h' Q
def oNo : MO := fun _ h => .ok none h
def oSome (f : ME) : MO := fun τ h => match f τ h with
  | .ok (.int i) h1 => .ok (some i) h1
  | _ => .bad
theorem po_imp {e : Option Expr} {t t' : TO} (h : PO X e t) (i : ∀ σ H Q, t' σ H Q → t σ H Q) : PO X e t' := ⟨fun pins s σ H Q I q => h.run pins s σ H Q I (i _ _ _ q)⟩
theorem xoNo : PO X none (TMO Y oNo) := po_imp po_none fun σ H Q q => by
  obtain ⟨ρ, τ, h, t, h', G, e, to⟩ := q
  cases e
  exact to.to ρ H _ .refl G.hr rfl
theorem xoSome {e : Expr} {f : ME} (he : PE X e (TM Y f)) : PO X (some e) (TMO Y (oSome f)) := po_imp (po_some he) fun σ H Q q => by
  obtain ⟨ρ, τ, h, t, h', G, e, to⟩ := q
  unfold oSome at e
  split at e
  · rename_i i h1 e1
    cases e
    exact ⟨ρ, τ, h, _, _, G, e1, ⟨fun ρ1 H1 v ev hr r => by cases r; exact ⟨_, rfl, to.to ρ1 H1 _ ev hr rfl⟩⟩⟩
  · cases e
def cutT (xs : List T) (lo hi : Option Int) : List T := (xs.drop (HT.sIx xs.length 0 lo)).take (HT.sIx xs.length xs.length hi - HT.sIx xs.length 0 lo)
def bSl (a : T) (lo hi : Option Int) (h : VH) : Res T := match a with
  | .tup ts => .ok (.tup (cutT ts lo hi)) h
  | .arg ts => .ok (.lst (cutT ts lo hi)) h
  | .str z => .ok (.str (cutS z lo hi)) h
  | a => match listOf h a with
    | some ts => .ok (.lst (cutT ts lo hi)) h
    | none => .bad
def eSl (f : ME) (lo hi : MO) : ME := fun τ h => match f τ h with
  | .ok a h1 => (match lo τ h1 with
    | .ok l h2 => (match hi τ h2 with
      | .ok u h3 => bSl a l u h3
      | .bad => .bad)
    | .bad => .bad)
  | .bad => .bad
def rSl (K : PySem.W.Frag) : V → Option Int → Option Int → Hp → VK → Prop := fun x lo hi H Q => rSlL K x lo hi H Q ∨ rSlA K x lo hi H Q ∨ rSlS x lo hi H Q
theorem oSl : SlR X (rSl X.K) := sl_list.or (sl_tupA.or sl_str)
theorem cut_rps {ρ : Rh} {H : Hp} {ts : List T} {vs : List V} (lo hi : Option Int) (r : Rps Y ρ H ts vs) : Rps Y ρ H (cutT ts lo hi) (cutV vs lo hi) := by
  unfold cutT cutV
  rw [r.length]
  exact (r.drop _).take _
theorem cut_whole (vs : List V) (lo hi : Option Int) (h : HT.sIx vs.length 0 lo = 0 ∧ HT.sIx vs.length vs.length hi = vs.length) : cutV vs lo hi = vs := by
  unfold cutV
  rw [h.1, h.2]; simp
theorem sl_ok {ρ : Rh} {H : Hp} {a : T} {va : V} {lo hi : Option Int} {h h' : VH} {t : T} {Q : VK} (ra : Rp Y ρ H a va) (hr : HR Y ρ H h) (e : bSl a lo hi h = .ok t h') (to : To Y (Rp Y) ρ H t h' Q) : rSl Y.K va lo hi H Q := by
  unfold bSl at e
  split at e
  · cases e
    cases ra with
    | tup ta rs =>
      have rc := cut_rps lo hi rs
      refine .inr (.inl ⟨_, _, rfl, ta.sq, fun w => ?_, fun w p hp => ?_⟩)
      · rw [cut_whole _ _ _ w] at rc
        exact to.to ρ H _ .refl hr (.tup ta rc)
      · obtain ⟨n1, n2⟩ := newT hr rc (Nat.le_trans (cutV_length _ _ _) ta.1) hp
        exact to.to ρ _ _ (Ev.new hp) n1 n2
  · cases e
    cases ra with
    | arg ta rs =>
      refine .inl ⟨_, _, rfl, ta.sq, fun p hp => ?_⟩
      obtain ⟨n1, n2⟩ := newL' hr (cut_rps lo hi rs) (Nat.le_trans (cutV_length _ _ _) ta.1) hp
      exact to.to ρ _ _ (Ev.new hp) n1 n2
  · cases e
    cases ra with
    | str hz => exact .inr (.inr ⟨_, rfl, by rw [sizeLine_eq]; omega, to.to ρ H _ .refl hr (.str (Nat.le_trans (cutS_length _ _ _) hz))⟩)
  · split at e
    · rename_i ts e1
      cases e
      obtain ⟨b, vb, rfl, hb, hz, rb⟩ := listOf_ok ra hr e1
      refine .inl ⟨b, vb, rfl, hb, fun p hp => ?_⟩
      obtain ⟨n1, n2⟩ := newL' hr (cut_rps lo hi rb) (Nat.le_trans (cutV_length _ _ _) hz) hp
      exact to.to ρ _ _ (Ev.new hp) n1 n2
    · cases e
theorem xSl {e : Expr} {lo hi : Option Expr} {f : ME} {l u : MO} {pos p2 : Pos} (hK : X.K = Y.K) (he : PE X e (TM Y f)) (hl : PO X lo (TMO Y l)) (hu : PO X hi (TMO Y u)) : PE X (.Subscript e (.Slice lo hi none p2) pos) (TM Y (eSl f l u)) :=
  pe_imp (pe_slice (r := rSl Y.K) (by rw [← hK]; exact oSl) he hl hu) fun σ H Q q => by
    obtain ⟨ρ, τ, h, t, h', G, e, to⟩ := q
    unfold eSl at e
    cases e1 : f τ h with
    | bad => simp only [e1] at e; cases e
    | ok a h1 =>
      simp only [e1] at e
      cases e2 : l τ h1 with
      | bad => simp only [e2] at e; cases e
      | ok lv h2 =>
        simp only [e2] at e
        cases e3 : u τ h2 with
        | bad => simp only [e3] at e; cases e
        | ok uv h3 =>
          simp only [e3] at e
          refine ⟨ρ, τ, h, a, h1, G, e1, ⟨fun ρ1 H1 va ev hr1 ra => ⟨ρ1, τ, h1, lv, h2, G.ev ev hr1, e2, ⟨fun ρ2 H2 vl ev2 hr2 el => ?_⟩⟩⟩⟩
          subst el
          refine ⟨ρ2, τ, h2, uv, h3, G.ev (ev.trans ev2) hr2, e3, ⟨fun ρ3 H3 vu ev3 hr3 eu => ?_⟩⟩
          subst eu
          exact sl_ok (ra.ev (ev2.trans ev3).toEvR) hr3 e (to.ev ((ev.trans ev2).trans ev3))
/-! unary minus -/
def eNeg (f : ME) : ME := fun τ h => match f τ h with
  | .ok (.int i) h1 => .ok (.int (-i)) h1
  | _ => .bad
end
end TL

set_option Elab.async false
set_option linter.all false
set_option maxRecDepth 100000
set_option maxHeartbeats 4000000
namespace TL
open PySem PySem.Spec L2
section
variable {X : Cx} {Y : Wd}
/-! ### one-place operations -/
theorem xNeg {a : Expr} {f : ME} {pos : Pos} (ha : PE X a (TM Y f)) : PE X (.UnaryOp .USub a pos) (TM Y (eNeg f)) := pe_imp (pe_un un_neg ha) fun σ H Q q => by
  obtain ⟨ρ, τ, h, t, h', G, e, to⟩ := q
  unfold eNeg at e
  split at e
  · rename_i i h1 e1
    cases e
    exact ⟨ρ, τ, h, _, _, G, e1, ⟨fun ρ1 H1 v ev hr r => by cases r; exact ⟨_, rfl, to.to ρ1 H1 _ ev hr (.int _)⟩⟩⟩
  · cases e
/-! ### a < b < c -/
def eChain (b b' : T → T → VH → Res T) (f g k : ME) : ME := fun τ h => match f τ h with
  | .ok x h1 => (match g τ h1 with
    | .ok y h2 => (match b x y h2 with
      | .ok (.bl true) h3 => (match k τ h3 with
        | .ok z h4 => b' y z h4
        | .bad => .bad)
      | .ok (.bl false) h3 => .ok (.bl false) h3
      | _ => .bad)
    | .bad => .bad)
  | .bad => .bad
theorem tm_chain {r r' : R2} {b b' : T → T → VH → Res T} (o1 : OT Y r b) (o2 : OT Y r' b') {f g k : ME} {σ : St} {H : Hp} {Q : VK} (q : TM Y (eChain b b' f g k) σ H Q) : tChain r r' (TM Y f) (TM Y g) (TM Y k) σ H Q := by
  obtain ⟨ρ, τ, h, t, h', G, e, to⟩ := q
  unfold eChain at e
  cases e1 : f τ h with
  | bad => simp only [e1] at e; cases e
  | ok x h1 =>
    simp only [e1] at e
    refine ⟨ρ, τ, h, x, h1, G, e1, ⟨fun ρ1 H1 vx ev1 hr1 rx => ?_⟩⟩
    cases e2 : g τ h1 with
    | bad => simp only [e2] at e; cases e
    | ok y h2 =>
      simp only [e2] at e
      refine ⟨ρ1, τ, h1, y, h2, G.ev ev1 hr1, e2, ⟨fun ρ2 H2 vy ev2 hr2 ry => ?_⟩⟩
      have ev12 := ev1.trans ev2
      split at e
      · rename_i h3 e3
        refine o1 ρ2 H2 x y vx vy h2 _ h3 _ (rx.ev ev2.toEvR) ry hr2 e3 ⟨fun ρ3 H3 v3 ev3 hr3 r3 => ?_⟩
        cases r3
        refine ⟨true, rfl, iteT ?_⟩
        have ev13 := ev12.trans ev3
        cases e4 : k τ h3 with
        | bad => simp only [e4] at e; cases e
        | ok z h4 =>
          simp only [e4] at e
          exact ⟨ρ3, τ, h3, z, h4, G.ev ev13 hr3, e4, ⟨fun ρ4 H4 vz ev4 hr4 rz => o2 ρ4 H4 y z vy vz h4 t h' Q (ry.ev (ev3.trans ev4).toEvR) rz hr4 e (to.ev (ev13.trans ev4))⟩⟩
      · rename_i h3 e3
        cases e
        refine o1 ρ2 H2 x y vx vy h2 _ _ _ (rx.ev ev2.toEvR) ry hr2 e3 ⟨fun ρ3 H3 v3 ev3 hr3 r3 => ?_⟩
        cases r3
        exact ⟨false, rfl, iteF (to.to ρ3 H3 _ (ev12.trans ev3) hr3 (.bl _))⟩
      · cases e
theorem xChain {a b c : Expr} {pos : Pos} {op op' : CmpOp} {r r' : R2} {bb bb' : T → T → VH → Res T} (t1 : OT Y r bb) (t2 : OT Y r' bb') {f g k : ME} (o1 : OpR X (compareOp op) r) (o2 : OpR X (compareOp op') r') (ha : PE X a (TM Y f)) (hb : PE X b (TM Y g)) (hc : PE X c (TM Y k))
    (hm : lastMarks [op, op'] [b, c] = false := by with_unfolding_all rfl) : PE X (.Compare a [op, op'] [b, c] pos) (TM Y (eChain bb bb' f g k)) := pe_imp (pe_chain o1 o2 ha hb hc hm) fun σ H Q q => tm_chain t1 t2 q
theorem xtChain {a b c : Expr} {pos : Pos} {op op' : CmpOp} {r r' : R2} {bb bb' : T → T → VH → Res T} (t1 : OT Y r bb) (t2 : OT Y r' bb') {f g k : ME} (o1 : OpR X (compareOp op) r) (o2 : OpR X (compareOp op') r') (ha : PE X a (TM Y f)) (hb : PE X b (TM Y g)) (hc : PE X c (TM Y k))
    (hm : lastMarks [op, op'] [b, c] = false := by with_unfolding_all rfl) : PT X (.Compare a [op, op'] [b, c] pos) (TMB Y (bTest (eChain bb bb' f g k))) := pt_imp (pt_chain o1 o2 ha hb hc hm) fun σ H Q q => by
  obtain ⟨ρ, τ, h, u, h', G, e, to⟩ := q
  refine tm_chain t1 t2 (Q := fun x H' => ∃ k, x = .bl k ∧ Q k H') ?_
  unfold bTest at e
  split at e
  · rename_i b h1 e1
    cases e
    refine ⟨ρ, τ, h, _, _, G, e1, ⟨fun ρ1 H1 v ev hr r => ?_⟩⟩
    cases r
    exact ⟨_, rfl, to.to ρ1 H1 _ ev hr rfl⟩
  · cases e

/-! ### a call that lays a new list -/
def CTF (Y : Wd) (r : List V → Hp → VK → Prop) (b : List T → VH → Res (List T)) : Prop := ∀ ρ H ts vs h us h' Q, Rps Y ρ H ts vs → HR Y ρ H h → b ts h = .ok us h' →
  (∀ ρ' H' D ws, Ev ρ H ρ' H' → HR Y ρ' H' h' → H D = none → LstAt Y ρ' H' D ws → Rps Y ρ' H' us ws → HR Y (ρ'.push D) H' (h' ++ [.lst us]) → Q (.ref D) H') → r vs H Q
def mCall (b : List T → VH → Res (List T)) (g : MA) : MA := fun τ h => match g τ h with
  | .ok ts h1 => b ts h1
  | .bad => .bad
theorem tm_callF {r : List V → Hp → VK → Prop} {b : List T → VH → Res (List T)} (ct : CTF Y r b) {g : MA} {σ : St} {H : Hp} {Q : VK} (q : TMF Y (mCall b g) σ H Q) : TMA Y g σ H fun vs H1 => r vs H1 Q := by
  obtain ⟨ρ, τ, h, us, h', G, e, to⟩ := q
  unfold mCall at e
  cases e1 : g τ h with
  | bad => simp only [e1] at e; cases e
  | ok ts h1 =>
    simp only [e1] at e
    exact ⟨ρ, τ, h, ts, h1, G, e1, ⟨fun ρ1 H1 vs ev hr rs => ct ρ1 H1 ts vs h1 us h' Q rs hr e fun ρ' H' D ws ev' hr' hD => to ρ' H' D ws (ev.trans ev') hr' (ev.fresh hD)⟩⟩
/-- a new list laid -/
theorem lay {ρ : Rh} {H : Hp} {h : VH} {us : List T} {ws : List V} {Q : VK} (hr : HR Y ρ H h) (rs : Rps Y ρ H us ws) (hz : ws.length ≤ sizeLine)
    (to : ∀ ρ' H' D ws, Ev ρ H ρ' H' → HR Y ρ' H' h → H D = none → LstAt Y ρ' H' D ws → Rps Y ρ' H' us ws → HR Y (ρ'.push D) H' (h ++ [.lst us]) → Q (.ref D) H') : ∀ p, H p = none → Q (.ref p) (upd H p (.lst ws)) := fun p hp => by
  obtain ⟨n1, n2, n3, n4⟩ := newL hr rs hz hp
  exact to ρ _ p ws (Ev.new hp) n1 hp n2 n3 n4
theorem xCallBF {id : String} {x : Str} {r : List V → Hp → VK → Prop} {b : List T → VH → Res (List T)} (ct : CTF Y r b) {e : Expr} {es : List Expr} {g : MA} {p pos : Pos} (hc : CallR X (.builtin id) r) (hg : Gl X x) (hm : X.mg x = none) (hv : bootBuiltins x = some (.builtin id)) (ha : PA X (e :: es) (TMA Y g)) (hn : x ≠ "__name__" := by decide) (hdb : (x == ("__debug__" : Str)) = false := by decide)
    (he : starEach (e :: es) X.env = (false, eval e X.env) :: starEach es X.env := by rfl) (hpl : (backTo pos (starEach es X.env)).any (·.1) = false := by rfl) :
    PE X (.Call (.Name x p) (e :: es) [] pos) (TMF Y (mCall b g)) := pe_imp (pe_callB hc hg hm hv ha hn hdb he hpl) fun σ H Q q => tm_callF ct q
theorem xCallTyF {T' : String} {x : Str} {r : List V → Hp → VK → Prop} {b : List T → VH → Res (List T)} (ct : CTF Y r b) {e : Expr} {es : List Expr} {g : MA} {p pos : Pos} (hc : CallR X (.type T') r) (hg : Gl X x) (hm : X.mg x = none) (hv : bootBuiltins x = some (.type T')) (ha : PA X (e :: es) (TMA Y g)) (hn : x ≠ "__name__" := by decide) (hdb : (x == ("__debug__" : Str)) = false := by decide)
    (he : starEach (e :: es) X.env = (false, eval e X.env) :: starEach es X.env := by rfl) (hpl : (backTo pos (starEach es X.env)).any (·.1) = false := by rfl) :
    PE X (.Call (.Name x p) (e :: es) [] pos) (TMF Y (mCall b g)) := pe_imp (pe_callTy hc hg hm hv ha hn hdb he hpl) fun σ H Q q => tm_callF ct q

/-! ### the built-in functions -/
def fLen (ts : List T) (h : VH) : Res T := match ts with
  | [.str z] => .ok (.int z.length) h
  | [t] => (match seqOf h t with
    | some us => .ok (.int us.length) h
    | none => .bad)
  | _ => .bad
theorem rps_one {ρ : Rh} {H : Hp} {t : T} {vs : List V} (r : Rps Y ρ H [t] vs) : ∃ v, vs = [v] ∧ Rp Y ρ H t v := by
  cases r with
  | cons a b => cases b; exact ⟨_, rfl, a⟩
theorem rps_two {ρ : Rh} {H : Hp} {t u : T} {vs : List V} (r : Rps Y ρ H [t, u] vs) : ∃ v w, vs = [v, w] ∧ Rp Y ρ H t v ∧ Rp Y ρ H u w := by
  cases r with
  | cons a b => obtain ⟨w, rfl, r⟩ := rps_one b; exact ⟨_, _, rfl, a, r⟩
def rLen (K : PySem.W.Frag) : List V → Hp → VK → Prop := fun xs H Q => ∃ x n, xs = [x] ∧ LenV K x H n ∧ Q (.int n) H
theorem ct_len : CT Y (rLen Y.K) fLen := fun ρ H ts vs h t h' Q r hr e to => by
  unfold fLen at e
  split at e
  · cases e
    obtain ⟨v, rfl, rv⟩ := rps_one r
    cases rv with
    | str hz => exact ⟨_, _, rfl, ⟨by rw [sizeLine_eq]; omega, rfl⟩, to.to ρ H _ .refl hr (.int _)⟩
  · split at e
    · rename_i us e1
      cases e
      obtain ⟨v, rfl, rv⟩ := rps_one r
      obtain ⟨a, ws, rfl, hs, hz, rs⟩ := seqOf_ok rv hr e1
      refine ⟨_, us.length, rfl, ?_, to.to ρ H _ .refl hr (.int _)⟩
      rw [← rs.length]
      exact hs.elim (fun z => .inl ⟨ws, z, rfl⟩) fun z => .inr ⟨ws, z, rfl⟩
    · cases e
  · cases e
/-- list(xs) -/
def fList (ts : List T) (h : VH) : Res (List T) := match ts with
  | [t] => (match seqOf h t with
    | some us => .ok us h
    | none => .bad)
  | _ => .bad
def rListOf (K : PySem.W.Frag) : List V → Hp → VK → Prop := fun xs H Q => ∃ p ys, xs = [.ref p] ∧ (SqL K H p ys ∨ SqT K H p ys) ∧ ∀ l, H l = none → Q (.ref l) (upd H l (.lst ys))
theorem ct_list : CTF Y (rListOf Y.K) fList := fun ρ H ts vs h us h' Q r hr e to => by
  unfold fList at e
  split at e
  · split at e
    · rename_i us' e1
      cases e
      obtain ⟨v, rfl, rv⟩ := rps_one r
      obtain ⟨a, ws, rfl, hs, hz, rs⟩ := seqOf_ok rv hr e1
      exact ⟨a, ws, rfl, hs, lay hr rs hz to⟩
    · cases e
  · cases e
/-- tuple(xs) -/
def fTuple (ts : List T) (h : VH) : Res T := match ts with
  | [t] => (match seqOf h t with
    | some us => .ok (.tup us) h
    | none => .bad)
  | _ => .bad
def rTupleOf (K : PySem.W.Frag) : List V → Hp → VK → Prop := fun xs H Q => ∃ p ys, xs = [.ref p] ∧ ((SqL K H p ys ∧ ∀ l, H l = none → Q (.ref l) (upd H l (.tup ys))) ∨ (SqT K H p ys ∧ Q (.ref p) H))
theorem ct_tuple : CT Y (rTupleOf Y.K) fTuple := fun ρ H ts vs h t h' Q r hr e to => by
  unfold fTuple at e
  split at e
  · split at e
    · rename_i us' e1
      cases e
      obtain ⟨v, rfl, rv⟩ := rps_one r
      cases rv with
      | tup ta rs =>
        simp only [seqOf, Option.some.injEq] at e1
        subst e1
        exact ⟨_, _, rfl, .inr ⟨ta.sq, to.to ρ H _ .refl hr (.tup ta rs)⟩⟩
      | arg la rs =>
        simp only [seqOf, Option.some.injEq] at e1
        subst e1
        refine ⟨_, _, rfl, .inl ⟨la.sq, fun l hl => ?_⟩⟩
        obtain ⟨n1, n2⟩ := newT hr rs la.1 hl
        exact to.to ρ _ _ (Ev.new hl) n1 n2
      | lst la rs =>
        obtain ⟨a, ws, e2, hs, hz, rs⟩ := listOf_ok (.lst la rs) hr (show listOf h _ = some _ from e1)
        cases e2
        refine ⟨_, ws, rfl, .inl ⟨hs, fun l hl => ?_⟩⟩
        obtain ⟨n1, n2⟩ := newT hr rs hz hl
        exact to.to ρ _ _ (Ev.new hl) n1 n2
      | ref ha =>
        obtain ⟨a, ws, e2, hs, hz, rs⟩ := listOf_ok (.ref ha) hr (show listOf h _ = some _ from e1)
        cases e2
        refine ⟨_, ws, rfl, .inl ⟨hs, fun l hl => ?_⟩⟩
        obtain ⟨n1, n2⟩ := newT hr rs hz hl
        exact to.to ρ _ _ (Ev.new hl) n1 n2
      | _ => cases e1
    · cases e
  · cases e
def intsOf : List T → Option (List Int)
  | [] => some []
  | .int i :: r => (intsOf r).map (i :: ·)
  | _ => none
def blsOf : List T → Option (List Bool)
  | [] => some []
  | .bl i :: r => (blsOf r).map (i :: ·)
  | _ => none
theorem intsOf_ok {ρ : Rh} {H : Hp} : ∀ {ts : List T} {vs : List V} {ns : List Int}, Rps Y ρ H ts vs → intsOf ts = some ns → vs = ns.map V.int
  | [], _, ns, r, e => by cases r; cases e; rfl
  | t :: ts, _, ns, r, e => by
    cases r with
    | cons a b =>
      cases t with
      | int i =>
        simp only [intsOf, Option.map_eq_some_iff] at e
        obtain ⟨ms, e1, rfl⟩ := e
        cases a
        rw [intsOf_ok b e1]; rfl
      | _ => cases e
theorem blsOf_ok {ρ : Rh} {H : Hp} : ∀ {ts : List T} {vs : List V} {ns : List Bool}, Rps Y ρ H ts vs → blsOf ts = some ns → vs = ns.map V.bl
  | [], _, ns, r, e => by cases r; cases e; rfl
  | t :: ts, _, ns, r, e => by
    cases r with
    | cons a b =>
      cases t with
      | bl i =>
        simp only [blsOf, Option.map_eq_some_iff] at e
        obtain ⟨ms, e1, rfl⟩ := e
        cases a
        rw [blsOf_ok b e1]; rfl
      | _ => cases e
/-- a function of a list of ints -/
def fInts (g : List Int → Option Int) (ts : List T) (h : VH) : Res T := match ts with
  | [t] => (match listOf h t with
    | some us => (match intsOf us with
      | some ns => (match g ns with
        | some m => .ok (.int m) h
        | none => .bad)
      | none => .bad)
    | none => .bad)
  | _ => .bad
def maxI : List Int → Option Int
  | [] => none
  | x :: r => some (r.foldl max x)
def minI : List Int → Option Int
  | [] => none
  | x :: r => some (r.foldl min x)
def fSum := fInts fun ns => some ns.sum
def fMax := fInts maxI
def fMin := fInts minI
theorem ints_arg {g : List Int → Option Int} {ρ : Rh} {H : Hp} {ts : List T} {vs : List V} {h h' : VH} {t : T} (r : Rps Y ρ H ts vs) (hr : HR Y ρ H h) (e : fInts g ts h = .ok t h') : ∃ a ns m, vs = [.ref a] ∧ SqL Y.K H a (ns.map V.int) ∧ g ns = some m ∧ t = .int m ∧ h' = h := by
  unfold fInts at e
  split at e
  · split at e
    · rename_i us e1
      split at e
      · rename_i ns e2
        split at e
        · rename_i m e3
          cases e
          obtain ⟨v, rfl, rv⟩ := rps_one r
          obtain ⟨a, ws, rfl, hs, hz, rs⟩ := listOf_ok rv hr e1
          rw [intsOf_ok rs e2] at hs
          exact ⟨a, ns, m, rfl, hs, e3, rfl, rfl⟩
        · cases e
      · cases e
    · cases e
  · cases e
theorem ct_sum : CT Y (rSum Y.K) fSum := fun ρ H ts vs h t h' Q r hr e to => by
  obtain ⟨a, ns, m, rfl, hs, e3, rfl, rfl⟩ := ints_arg r hr e
  cases e3
  exact ⟨a, ns, rfl, hs, to.to ρ H _ .refl hr (.int _)⟩
theorem foldl_max_spec : ∀ (r : List Int) (x : Int), (∀ y, y ∈ x :: r → y ≤ r.foldl max x) ∧ r.foldl max x ∈ x :: r
  | [], x => ⟨fun y h => by simp at h; simp [h], by simp⟩
  | z :: r, x => by
    obtain ⟨h1, h2⟩ := foldl_max_spec r (max x z)
    refine ⟨fun y hy => ?_, ?_⟩
    · rw [List.foldl_cons]
      rcases List.mem_cons.mp hy with e | hy
      · have := h1 (max x z) List.mem_cons_self; omega
      · rcases List.mem_cons.mp hy with e | hy
        · have := h1 (max x z) List.mem_cons_self; omega
        · exact h1 y (List.mem_cons_of_mem _ hy)
    · rw [List.foldl_cons]
      rcases List.mem_cons.mp h2 with e | e
      · rw [e]
        rcases Int.le_total x z with c | c
        · rw [Int.max_eq_right c]; simp
        · rw [Int.max_eq_left c]; simp
      · exact List.mem_cons_of_mem _ (List.mem_cons_of_mem _ e)
theorem foldl_min_spec : ∀ (r : List Int) (x : Int), (∀ y, y ∈ x :: r → r.foldl min x ≤ y) ∧ r.foldl min x ∈ x :: r
  | [], x => ⟨fun y h => by simp at h; simp [h], by simp⟩
  | z :: r, x => by
    obtain ⟨h1, h2⟩ := foldl_min_spec r (min x z)
    refine ⟨fun y hy => ?_, ?_⟩
    · rw [List.foldl_cons]
      rcases List.mem_cons.mp hy with e | hy
      · have := h1 (min x z) List.mem_cons_self; omega
      · rcases List.mem_cons.mp hy with e | hy
        · have := h1 (min x z) List.mem_cons_self; omega
        · exact h1 y (List.mem_cons_of_mem _ hy)
    · rw [List.foldl_cons]
      rcases List.mem_cons.mp h2 with e | e
      · rw [e]
        rcases Int.le_total x z with c | c
        · rw [Int.min_eq_left c]; simp
        · rw [Int.min_eq_right c]; simp
      · exact List.mem_cons_of_mem _ (List.mem_cons_of_mem _ e)
theorem ct_max : CT Y (rMax Y.K) fMax := fun ρ H ts vs h t h' Q r hr e to => by
  obtain ⟨a, ns, m, rfl, hs, e3, rfl, rfl⟩ := ints_arg r hr e
  cases ns with
  | nil => cases e3
  | cons x xs =>
    cases e3
    refine ⟨a, _, rfl, hs, by simp, fun m hm hall => ?_⟩
    obtain ⟨h1, h2⟩ := foldl_max_spec xs x
    have e : m = xs.foldl max x := Int.le_antisymm (h1 m hm) (hall _ h2)
    rw [e]
    exact to.to ρ H _ .refl hr (.int _)
theorem ct_min : CT Y (rMin Y.K) fMin := fun ρ H ts vs h t h' Q r hr e to => by
  obtain ⟨a, ns, m, rfl, hs, e3, rfl, rfl⟩ := ints_arg r hr e
  cases ns with
  | nil => cases e3
  | cons x xs =>
    cases e3
    refine ⟨a, _, rfl, hs, by simp, fun m hm hall => ?_⟩
    obtain ⟨h1, h2⟩ := foldl_min_spec xs x
    have e : m = xs.foldl min x := Int.le_antisymm (hall _ h2) (h1 m hm)
    rw [e]
    exact to.to ρ H _ .refl hr (.int _)
def fBls (g : List Bool → Bool) (ts : List T) (h : VH) : Res T := match ts with
  | [t] => (match listOf h t with
    | some us => (match blsOf us with
      | some ns => .ok (.bl (g ns)) h
      | none => .bad)
    | none => .bad)
  | _ => .bad
def fAll := fBls fun bs => bs.all id
def fAny := fBls fun bs => bs.any id
def rBls (K : PySem.W.Frag) (g : List Bool → Bool) : List V → Hp → VK → Prop := fun vs H Q => ∃ (a : Addr) (bs : List Bool), vs = [V.ref a] ∧ SqL K H a (bs.map V.bl) ∧ Q (.bl (g bs)) H
theorem ct_bls (g : List Bool → Bool) : CT Y (rBls Y.K g) (fBls g) := fun ρ H ts vs h t h' Q r hr e to => by
  unfold fBls at e
  split at e
  · split at e
    · rename_i us e1
      split at e
      · rename_i ns e2
        cases e
        obtain ⟨v, rfl, rv⟩ := rps_one r
        obtain ⟨a, ws, rfl, hs, hz, rs⟩ := listOf_ok rv hr e1
        rw [blsOf_ok rs e2] at hs
        exact ⟨a, ns, rfl, hs, to.to ρ H _ .refl hr (.bl _)⟩
      · cases e
    · cases e
  · cases e
theorem ct_all : CT Y (rAll Y.K) fAll := ct_bls _
theorem ct_any : CT Y (rAny Y.K) fAny := ct_bls _
def fAbs (ts : List T) (h : VH) : Res T := match ts with
  | [.int i] => .ok (.int (if i < 0 then -i else i)) h
  | _ => .bad
theorem ct_abs : CT Y (fun xs H Q => ∃ i, xs = [V.int i] ∧ Q (.int (if i < 0 then -i else i)) H) fAbs := fun ρ H ts vs h t h' Q r hr e to => by
  unfold fAbs at e
  split at e
  · cases e
    obtain ⟨v, rfl, rv⟩ := rps_one r
    cases rv
    exact ⟨_, rfl, to.to ρ H _ .refl hr (.int _)⟩
  · cases e
/-- int(x) -/
def fInt (ts : List T) (h : VH) : Res T := match ts with
  | [.int i] => .ok (.int i) h
  | [.bl b] => .ok (.int (if b = true then 1 else 0)) h
  | [.str a] => (match intText? a with
    | some n => if a.length ≤ 640 then .ok (.int n) h else .bad
    | none => .bad)
  | _ => .bad
def rInt1 : List V → Hp → VK → Prop := fun xs H Q => (∃ i, xs = [V.int i] ∧ Q (.int i) H) ∨ ∃ k, xs = [V.bl k] ∧ Q (.int (if k = true then 1 else 0)) H
def rIntS : List V → Hp → VK → Prop := fun xs H Q => ∃ a n, xs = [V.str a] ∧ intText? a = some n ∧ a.length ≤ 640 ∧ Q (.int n) H
def rInt : List V → Hp → VK → Prop := fun xs H Q => rInt1 xs H Q ∨ rIntS xs H Q
theorem oInt : CallR X (.type "int") rInt := CallR.or (r := rInt1) (r' := rIntS) call_int1 call_int_str
theorem ct_int : CT Y rInt fInt := fun ρ H ts vs h t h' Q r hr e to => by
  unfold fInt at e
  split at e
  · cases e
    obtain ⟨v, rfl, rv⟩ := rps_one r
    cases rv
    exact .inl (.inl ⟨_, rfl, to.to ρ H _ .refl hr (.int _)⟩)
  · cases e
    obtain ⟨v, rfl, rv⟩ := rps_one r
    cases rv
    exact .inl (.inr ⟨_, rfl, to.to ρ H _ .refl hr (.int _)⟩)
  · split at e
    · rename_i n en
      split at e
      · rename_i hz
        cases e
        obtain ⟨v, rfl, rv⟩ := rps_one r
        cases rv
        exact .inr ⟨_, n, rfl, en, hz, to.to ρ H _ .refl hr (.int _)⟩
      · cases e
    · cases e
  · cases e
/-- str(x) -/
def fStr (ts : List T) (h : VH) : Res T := match ts with
  | [.int i] => if i.natAbs.log2 < 1920 ∧ (Str.ofString (toString i)).length ≤ 1000000 then .ok (.str (Str.ofString (toString i))) h else .bad
  | _ => .bad
theorem ct_str : CT Y (fun xs H Q => ∃ i, xs = [V.int i] ∧ i.natAbs.log2 < 1920 ∧ Q (.str (Str.ofString (toString i))) H) fStr := fun ρ H ts vs h t h' Q r hr e to => by
  unfold fStr at e
  split at e
  · split at e
    · rename_i hz
      cases e
      obtain ⟨v, rfl, rv⟩ := rps_one r
      cases rv
      exact ⟨_, rfl, hz.1, to.to ρ H _ .refl hr (.str hz.2)⟩
    · cases e
  · cases e
def fII (g : Int → Int → Int) (ts : List T) (h : VH) : Res T := match ts with
  | [.int i, .int j] => .ok (.int (g i j)) h
  | _ => .bad
def fMax2 := fII fun i j => if j > i then j else i
def fMin2 := fII fun i j => if j < i then j else i
theorem ct_II (g : Int → Int → Int) : CT Y (fun xs H Q => ∃ i j, xs = [V.int i, V.int j] ∧ Q (.int (g i j)) H) (fII g) := fun ρ H ts vs h t h' Q r hr e to => by
  unfold fII at e
  split at e
  · cases e
    obtain ⟨v, w, rfl, rv, rw'⟩ := rps_two r
    cases rv
    cases rw'
    exact ⟨_, _, rfl, to.to ρ H _ .refl hr (.int _)⟩
  · cases e
theorem ct_max2 : CT Y (fun xs H Q => ∃ i j, xs = [V.int i, V.int j] ∧ Q (.int (if j > i then j else i)) H) fMax2 := ct_II _
theorem ct_min2 : CT Y (fun xs H Q => ∃ i j, xs = [V.int i, V.int j] ∧ Q (.int (if j < i then j else i)) H) fMin2 := ct_II _
def fDivmod (ts : List T) (h : VH) : Res T := match ts with
  | [.int i, .int j] => if 0 < j ∧ Builtin.divisionGoesByPylong i j = false then .ok (.tup [.int (i / j), .int (i % j)]) h else .bad
  | _ => .bad
theorem ct_divmod : CT Y (fun xs H Q => ∃ i j, xs = [V.int i, V.int j] ∧ CDivP i j ∧ ∀ p, H p = none → Q (.ref p) (upd H p (.tup [.int (i / j), .int (i % j)]))) fDivmod := fun ρ H ts vs h t h' Q r hr e to => by
  unfold fDivmod at e
  split at e
  · split at e
    · rename_i hz
      cases e
      obtain ⟨v, w, rfl, rv, rw'⟩ := rps_two r
      cases rv
      cases rw'
      refine ⟨_, _, rfl, hz, fun p hp => ?_⟩
      obtain ⟨n1, n2⟩ := newT (vs := [.int _, .int _]) hr (.cons (.int _) (.cons (.int _) .nil)) (by rw [sizeLine_eq]; exact Nat.le_of_ble_eq_true rfl) hp
      exact to.to ρ _ _ (Ev.new hp) n1 n2
    · cases e
  · cases e
end
end TL

set_option Elab.async false
set_option linter.all false
set_option maxRecDepth 100000
set_option maxHeartbeats 4000000
namespace TL
open PySem PySem.Spec L2
section
variable {X : Cx} {Y : Wd}
/-! ### walks -/
theorem wk_list {v : V} {t : T} {ρ : Rh} {H : Hp} {a : Addr} (r : Rp Y ρ H t (.ref a)) : Wk Y (Itl Y.K a) (fun h => listOf h t) ρ H := by
  refine ⟨fun ρ1 H1 h ts i u ev hr e ei => ?_, fun ρ1 H1 h ts i ev hr e hl => ?_⟩
  · obtain ⟨b, vs, eb, hs, hz, rs⟩ := listOf_ok (r.ev ev) hr e
    cases eb
    obtain ⟨w, ew, rw'⟩ := rs.get ei
    refine ⟨⟨vs, w, hs, ew⟩, fun x H' y => ?_⟩
    obtain ⟨rfl, hx⟩ := y
    have e2 := hx vs hs
    rw [ew] at e2
    cases e2
    exact ⟨.refl, hr, rw'⟩
  · obtain ⟨b, vs, eb, hs, hz, rs⟩ := listOf_ok (r.ev ev) hr e
    cases eb
    exact ⟨vs, hs, by rw [rs.length]; exact hl⟩
theorem wk_tup {t : T} {ρ : Rh} {H : Hp} {a : Addr} (r : Rp Y ρ H t (.ref a)) : Wk Y (Itt Y.K a) (fun _ => tupOf t) ρ H := by
  refine ⟨fun ρ1 H1 h ts i u ev hr e ei => ?_, fun ρ1 H1 h ts i ev hr e hl => ?_⟩
  · obtain ⟨b, vs, eb, hs, hz, rs⟩ := tupOf_ok (r.ev ev) e
    cases eb
    obtain ⟨w, ew, rw'⟩ := rs.get ei
    refine ⟨⟨vs, w, hs, ew⟩, fun x H' y => ?_⟩
    obtain ⟨rfl, hx⟩ := y
    have e2 := hx vs hs
    rw [ew] at e2
    cases e2
    exact ⟨.refl, hr, rw'⟩
  · obtain ⟨b, vs, eb, hs, hz, rs⟩ := tupOf_ok (r.ev ev) e
    cases eb
    exact ⟨vs, hs, by rw [rs.length]; exact hl⟩
/-- a text's signs -/
def signsT (x : Str) : List T := x.cps.toList.map fun c => .str ⟨#[c]⟩
theorem wk_str {x : Str} {ρ : Rh} {H : Hp} : Wk Y (Its x) (fun _ => some (signsT x)) ρ H := by
  refine ⟨fun ρ1 H1 h ts i u ev hr e ei => ?_, fun ρ1 H1 h ts i ev hr e hl => ?_⟩
  · cases e
    unfold signsT at ei
    rw [List.getElem?_map] at ei
    cases q : x.cps.toList[i]? with
    | none => rw [q] at ei; cases ei
    | some c =>
      rw [q] at ei
      cases ei
      rw [Array.getElem?_toList] at q
      refine ⟨(Array.getElem?_eq_some_iff.mp q).1, fun v H' y => ?_⟩
      obtain ⟨rfl, c', hc, rfl⟩ := y
      rw [q] at hc
      cases hc
      exact ⟨.refl, hr, .str (by show (#[_] : Array Nat).size ≤ _; simp)⟩
  · cases e
    show x.cps.size ≤ i
    unfold signsT at hl
    simpa using hl
def seqS (h : VH) : T → Option (List T)
  | .str x => some (signsT x)
  | .arg _ => none
  | t => seqOf h t
def iSeq (f : ME) : MI := fun τ h => match f τ h with
  | .ok t h1 => .ok (fun h => seqS h t) h1
  | .bad => .bad
theorem wk_at {J : It} {rd rd' : VH → Option (List T)} {ρ : Rh} {H : Hp} (w : Wk Y J rd ρ H) (e : ∀ h, rd' h = rd h) : Wk Y J rd' ρ H :=
  ⟨fun ρ1 H1 h ts i u ev hr q => w.go ρ1 H1 h ts i u ev hr (by rw [← e]; exact q), fun ρ1 H1 h ts i ev hr q => w.stop ρ1 H1 h ts i ev hr (by rw [← e]; exact q)⟩
/-- only what can be walked -/
def walkable (h : VH) (t : T) : Bool := (seqS h t).isSome
def iSeqC (f : ME) : MI := fun τ h => match f τ h with
  | .ok t h1 => if walkable h1 t = true then .ok (fun h => seqS h t) h1 else .bad
  | .bad => .bad
/-- which of the library's three walks it is, the value's form tells -/
theorem xiSeq {tg e : Expr} {f : ME} (hK : X.K = Y.K) (he : PE X e (TM Y f)) : PI X tg e (TMI Y (iSeqC f)) := by
  constructor
  intro pins s σ H R I q
  obtain ⟨ρ, τ, h, rd, h', G, e, to⟩ := q
  unfold iSeqC at e
  cases e1 : f τ h with
  | bad => rw [e1] at e; cases e
  | ok t h1 =>
    rw [e1] at e
    by_cases hw : walkable h1 t = true
    case neg => simp only [hw] at e; cases e
    simp only [hw, if_true] at e
    cases e
    have asList : (∀ ρ1 H1 v, Ev ρ H ρ1 H1 → HR Y ρ1 H1 h' → Rp Y ρ1 H1 t v → ∃ a, v = .ref a ∧ (∃ xs, SqL X.K H1 a xs) ∧ R (Itl X.K a) H1) → wpAny (model X.prog X.w) X.A (eval _ X.env) (fun v s1 => wpAny (model X.prog X.w) X.A (pyIter v) (PIE X pins σ tg R) X.xe s1) X.xe s :=
      fun k => (pi_list he).run pins s σ H R I ⟨ρ, τ, h, t, _, G, e1, ⟨fun ρ1 H1 v ev hr r => k ρ1 H1 v ev hr r⟩⟩
    cases t with
    | str z => exact (pi_str he).run pins s σ H R I ⟨ρ, τ, h, _, _, G, e1, ⟨fun ρ1 H1 v ev hr r => by cases r; exact ⟨_, rfl, to ρ1 H1 _ ev hr wk_str⟩⟩⟩
    | tup ts =>
      refine (pi_tup he).run pins s σ H R I ⟨ρ, τ, h, _, _, G, e1, ⟨fun ρ1 H1 v ev hr r => ?_⟩⟩
      rw [hK]
      cases r with
      | tup ta rs => exact ⟨_, rfl, ⟨_, ta.sq⟩, to ρ1 H1 _ ev hr (wk_at (wk_tup (.tup ta rs)) fun _ => rfl)⟩
    | lst ts =>
      refine asList fun ρ1 H1 v ev hr r => ?_
      rw [hK]
      cases r with
      | lst la rs => exact ⟨_, rfl, ⟨_, la.sq⟩, to ρ1 H1 _ ev hr (wk_at (wk_list (v := .non) (.lst la rs)) fun _ => rfl)⟩
    | ref n =>
      refine asList fun ρ1 H1 v ev hr r => ?_
      rw [hK]
      obtain ⟨ts, ets⟩ := Option.isSome_iff_exists.mp (show (seqS h' (.ref n)).isSome = true from hw)
      obtain ⟨b, vs, eb, hs, hz, rs⟩ := listOf_ok r hr (show listOf _ _ = some ts from ets)
      subst eb
      exact ⟨_, rfl, ⟨_, hs⟩, to ρ1 H1 _ ev hr (wk_at (wk_list (v := .non) r) fun _ => rfl)⟩
    | _ => cases hw
/-- lo, lo + 1, .. -/
def rangeT (lo : Int) (n : Nat) : List T := (List.range n).map fun (i : Nat) => T.int (lo + i)
theorem wk_range {lo : Int} {n : Nat} {ρ : Rh} {H : Hp} : Wk Y (Itr lo n) (fun _ => some (rangeT lo n)) ρ H := by
  refine ⟨fun ρ1 H1 h ts i u ev hr e ei => ?_, fun ρ1 H1 h ts i ev hr e hl => ?_⟩
  · cases e
    unfold rangeT at ei
    rw [List.getElem?_map] at ei
    have hi : i < n := by
      by_cases c : i < n
      · exact c
      · rw [List.getElem?_eq_none (by simp; omega)] at ei; cases ei
    rw [List.getElem?_range hi] at ei
    cases ei
    refine ⟨hi, fun v H' y => ?_⟩
    obtain ⟨rfl, rfl⟩ := y
    exact ⟨.refl, hr, .int _⟩
  · cases e
    unfold rangeT at hl
    show n ≤ i
    simpa using hl
def iRange1 (g : MA) : MI := fun τ h => match g τ h with
  | .ok [.int j] h1 => if -1000000000 ≤ j ∧ j ≤ 1000000000 then .ok (fun _ => some (rangeT 0 j.toNat)) h1 else .bad
  | _ => .bad
def iRange2 (g : MA) : MI := fun τ h => match g τ h with
  | .ok [.int i, .int j] h1 => if -1000000000 ≤ i ∧ i ≤ 1000000000 ∧ -1000000000 ≤ j ∧ j ≤ 1000000000 then .ok (fun _ => some (rangeT i (j - i).toNat)) h1 else .bad
  | _ => .bad
theorem xiRange1 {tg a : Expr} {g : MA} {p pos : Pos} (hg : Gl X "range") (hm : X.mg "range" = none) (ha : PA X [a] (TMA Y g)) (hs : starEach [a] X.env = [(false, eval a X.env)] := by rfl) : PI X tg (.Call (.Name "range" p) [a] [] pos) (TMI Y (iRange1 g)) :=
  pi_imp (pi_range1 hg hm ha hs) fun σ H R q => by
    obtain ⟨ρ, τ, h, rd, h', G, e, to⟩ := q
    unfold iRange1 at e
    split at e
    · rename_i j h1 e1
      split at e
      · rename_i hz
        cases e
        refine ⟨ρ, τ, h, _, _, G, e1, ⟨fun ρ1 H1 vs ev hr r => ?_⟩⟩
        obtain ⟨v, rfl, rv⟩ := rps_one r
        cases rv
        exact ⟨j, rfl, by omega, by omega, to ρ1 H1 _ ev hr wk_range⟩
      · cases e
    · cases e
theorem xiRange2 {tg a b : Expr} {g : MA} {p pos : Pos} (hg : Gl X "range") (hm : X.mg "range" = none) (ha : PA X [a, b] (TMA Y g)) (hs : starEach [a, b] X.env = [(false, eval a X.env), (false, eval b X.env)] := by rfl) (hs2 : starEach [b] X.env = [(false, eval b X.env)] := by rfl) : PI X tg (.Call (.Name "range" p) [a, b] [] pos) (TMI Y (iRange2 g)) :=
  pi_imp (pi_range2 hg hm ha hs hs2) fun σ H R q => by
    obtain ⟨ρ, τ, h, rd, h', G, e, to⟩ := q
    unfold iRange2 at e
    split at e
    · rename_i i j h1 e1
      split at e
      · rename_i hz
        cases e
        refine ⟨ρ, τ, h, _, _, G, e1, ⟨fun ρ1 H1 vs ev hr r => ?_⟩⟩
        obtain ⟨v, w, rfl, rv, rw'⟩ := rps_two r
        cases rv
        cases rw'
        exact ⟨i, j, rfl, ⟨by omega, by omega, by omega, by omega⟩, to ρ1 H1 _ ev hr wk_range⟩
      · cases e
    · cases e
/-- pairs with their number -/
def enumT (ts : List T) : List T := ts.mapIdx fun i t => .tup [.int (i : Nat), t]
theorem pair_new {ρ : Rh} {H : Hp} {h : VH} {p : Addr} {x y : V} {t u : T} (hr : HR Y ρ H h) (r1 : Rp Y ρ H t x) (r2 : Rp Y ρ H u y) (hp : H p = none) : Ev ρ H ρ (upd H p (.tup [x, y])) ∧ HR Y ρ (upd H p (.tup [x, y])) h ∧ Rp Y ρ (upd H p (.tup [x, y])) (.tup [t, u]) (.ref p) := by
  obtain ⟨n1, n2⟩ := newT (vs := [x, y]) hr (.cons r1 (.cons r2 .nil)) (by rw [sizeLine_eq]; exact Nat.le_of_ble_eq_true rfl) hp
  exact ⟨Ev.new hp, n1, n2⟩
theorem wk_enum {t : T} {ρ : Rh} {H : Hp} {a : Addr} (r : Rp Y ρ H t (.ref a)) : Wk Y (Ite Y.K a) (fun h => (listOf h t).map enumT) ρ H := by
  refine ⟨fun ρ1 H1 h ts i u ev hr e ei => ?_, fun ρ1 H1 h ts i ev hr e hl => ?_⟩
  · rw [Option.map_eq_some_iff] at e
    obtain ⟨us, e, rfl⟩ := e
    obtain ⟨b, vs, eb, hs, hz, rs⟩ := listOf_ok (r.ev ev) hr e
    cases eb
    unfold enumT at ei
    rw [List.getElem?_mapIdx] at ei
    cases q : us[i]? with
    | none => rw [q] at ei; cases ei
    | some z =>
      rw [q] at ei
      cases ei
      obtain ⟨w, ew, rw'⟩ := rs.get q
      refine ⟨⟨vs, w, hs, ew⟩, fun x H' y => ?_⟩
      obtain ⟨p, x', rfl, hp, rfl, hx⟩ := y
      have e2 := hx vs hs
      rw [ew] at e2
      cases e2
      exact pair_new hr (.int _) rw' hp
  · rw [Option.map_eq_some_iff] at e
    obtain ⟨us, e, rfl⟩ := e
    obtain ⟨b, vs, eb, hs, hz, rs⟩ := listOf_ok (r.ev ev) hr e
    cases eb
    refine ⟨vs, hs, ?_⟩
    rw [rs.length]
    unfold enumT at hl
    simpa using hl
def iEnumM (g : MA) : MI := fun τ h => match g τ h with
  | .ok [t] h1 => if (listOf h1 t).isSome = true then .ok (fun h => (listOf h t).map enumT) h1 else .bad
  | _ => .bad
theorem xiEnum {e : Expr} {g : MA} {p pos tpos : Pos} {elts : List Expr} {kk : Nat} (hK : X.K = Y.K) (hg : Gl X "enumerate") (hm : X.mg "enumerate" = none) (ha : PA X [e] (TMA Y g)) (hs : starEach [e] X.env = [(false, eval e X.env)] := by rfl) :
    PI X (.Tuple elts kk tpos) (.Call (.Name "enumerate" p) [e] [] pos) (TMI Y (iEnumM g)) := pi_imp (pi_enum hg hm ha hs) fun σ H R q => by
  obtain ⟨ρ, τ, h, rd, h', G, e, to⟩ := q
  unfold iEnumM at e
  split at e
  · rename_i t h1 e1
    split at e
    · rename_i hz
      cases e
      refine ⟨ρ, τ, h, _, _, G, e1, ⟨fun ρ1 H1 vs ev hr r => ?_⟩⟩
      obtain ⟨v, rfl, rv⟩ := rps_one r
      obtain ⟨ts, ets⟩ := Option.isSome_iff_exists.mp hz
      obtain ⟨b, vs, rfl, hs, hz, rs⟩ := listOf_ok rv hr ets
      rw [hK]
      exact ⟨b, vs, rfl, hs, to ρ1 H1 _ ev hr (wk_enum rv)⟩
    · cases e
  · cases e
/-- zip of two lists -/
def zipT (ts us : List T) : List T := List.zipWith (fun t u => T.tup [t, u]) ts us
theorem wk_zip {t u : T} {ρ : Rh} {H : Hp} {a b : Addr} (r1 : Rp Y ρ H t (.ref a)) (r2 : Rp Y ρ H u (.ref b)) : Wk Y (Itz Y.K a b) (fun h => match listOf h t, listOf h u with | some ts, some us => some (zipT ts us) | _, _ => none) ρ H := by
  refine ⟨fun ρ1 H1 h ts i w ev hr e ei => ?_, fun ρ1 H1 h ts i ev hr e hl => ?_⟩
  · split at e
    · rename_i xs ys ex ey
      cases e
      obtain ⟨b1, vs, eb, hs, hz, rs⟩ := listOf_ok (r1.ev ev) hr ex
      cases eb
      obtain ⟨b2, vs2, eb, hs2, hz2, rs2⟩ := listOf_ok (r2.ev ev) hr ey
      cases eb
      unfold zipT at ei
      rw [List.getElem?_zipWith] at ei
      cases q1 : xs[i]? with
      | none => rw [q1] at ei; simp at ei
      | some x =>
        cases q2 : ys[i]? with
        | none => rw [q1, q2] at ei; simp at ei
        | some y =>
          rw [q1, q2] at ei
          simp at ei
          subst ei
          obtain ⟨w1, ew1, rw1⟩ := rs.get q1
          obtain ⟨w2, ew2, rw2⟩ := rs2.get q2
          refine ⟨⟨vs, vs2, w1, w2, hs, hs2, ew1, ew2⟩, fun z H' yl => ?_⟩
          obtain ⟨p, x', y', rfl, hp, rfl, hx, hy⟩ := yl
          have e2 := hx vs hs
          rw [ew1] at e2
          cases e2
          have e3 := hy vs2 hs2
          rw [ew2] at e3
          cases e3
          exact pair_new hr rw1 rw2 hp
    · cases e
  · split at e
    · rename_i xs ys ex ey
      cases e
      obtain ⟨b1, vs, eb, hs, hz, rs⟩ := listOf_ok (r1.ev ev) hr ex
      cases eb
      obtain ⟨b2, vs2, eb, hs2, hz2, rs2⟩ := listOf_ok (r2.ev ev) hr ey
      cases eb
      refine ⟨vs, vs2, hs, hs2, ?_⟩
      rw [rs.length, rs2.length]
      unfold zipT at hl
      simp at hl
      omega
    · cases e
def iZipM (g : MA) : MI := fun τ h => match g τ h with
  | .ok [t, u] h1 => if ((listOf h1 t).isSome && (listOf h1 u).isSome) = true then .ok (fun h => match listOf h t, listOf h u with | some ts, some us => some (zipT ts us) | _, _ => none) h1 else .bad
  | _ => .bad
theorem xiZip {e e2 : Expr} {g : MA} {p pos tpos : Pos} {elts : List Expr} {kk : Nat} (hK : X.K = Y.K) (hg : Gl X "zip") (hm : X.mg "zip" = none) (ha : PA X [e, e2] (TMA Y g)) (hs : starEach [e, e2] X.env = (false, eval e X.env) :: starEach [e2] X.env := by rfl)
    (hpl : (backTo pos (starEach [e2] X.env)).any (·.1) = false := by rfl) : PI X (.Tuple elts kk tpos) (.Call (.Name "zip" p) [e, e2] [] pos) (TMI Y (iZipM g)) := pi_imp (pi_zip hg hm ha hs hpl) fun σ H R q => by
  obtain ⟨ρ, τ, h, rd, h', G, e, to⟩ := q
  unfold iZipM at e
  split at e
  · rename_i t u h1 e1
    split at e
    · rename_i hz
      cases e
      rw [Bool.and_eq_true] at hz
      refine ⟨ρ, τ, h, _, _, G, e1, ⟨fun ρ1 H1 vs ev hr r => ?_⟩⟩
      obtain ⟨v, w, rfl, rv, rw'⟩ := rps_two r
      obtain ⟨ts, ets⟩ := Option.isSome_iff_exists.mp hz.1
      obtain ⟨b, vs, rfl, hs, hz1, rs⟩ := listOf_ok rv hr ets
      obtain ⟨us, eus⟩ := Option.isSome_iff_exists.mp hz.2
      obtain ⟨b2, vs2, rfl, hs2, hz2, rs2⟩ := listOf_ok rw' hr eus
      rw [hK]
      exact ⟨b, b2, vs, vs2, rfl, hs, hs2, to ρ1 H1 _ ev hr (wk_zip rv rw')⟩
    · cases e
  · cases e
/-! ### starred arguments and items -/
def aStar (f : ME) (g : MA) : MA := fun τ h => match f τ h with
  | .ok t h1 => (match seqOf h1 t with
    | some ts => (match g τ h1 with
      | .ok us h2 => .ok (ts ++ us) h2
      | .bad => .bad)
    | none => .bad)
  | .bad => .bad
theorem xaStar {e : Expr} {es : List Expr} {p : Pos} {f : ME} {g : MA} (hK : X.K = Y.K) (ha : PE X e (TM Y f)) (hr : PA X es (TMA Y g)) (hs : starEach (.Starred e p :: es) X.env = (true, eval e X.env) :: starEach es X.env := by rfl) : PA X (.Starred e p :: es) (TMA Y (aStar f g)) :=
  pa_imp (StX.pa_star ha hr hs) fun σ H Q q => by
    obtain ⟨ρ, τ, h, u, h', G, e, to⟩ := q
    unfold aStar at e
    cases e1 : f τ h with
    | bad => simp only [e1] at e; cases e
    | ok t h1 =>
      simp only [e1] at e
      refine ⟨ρ, τ, h, t, h1, G, e1, ⟨fun ρ1 H1 v ev hr1 r => ?_⟩⟩
      cases e2 : seqOf h1 t with
      | none => simp only [e2] at e; cases e
      | some ts =>
        simp only [e2] at e
        obtain ⟨a, vs, rfl, hs, hz, rs⟩ := seqOf_ok r hr1 e2
        cases e3 : g τ h1 with
        | bad => simp only [e3] at e; cases e
        | ok us h2 =>
          simp only [e3] at e
          cases e
          rw [hK]
          exact ⟨a, vs, rfl, hs.symm, ρ1, τ, h1, _, _, G.ev ev hr1, e3, ⟨fun ρ2 H2 ws ev2 hr2 rs2 => to.to ρ2 H2 _ (ev.trans ev2) hr2 ((rs.ev ev2.toEvR).append rs2)⟩⟩
/-! ### xs[::-1] of a list -/
def eRev (f : ME) : ME := fun τ h => match f τ h with
  | .ok t h1 => (match listOf h1 t with
    | some ts => .ok (.lst ts.reverse) h1
    | none => .bad)
  | .bad => .bad
theorem xRev {e : Expr} {f : ME} {k : Nat} {p1 p2 p3 pos : Pos} (hK : X.K = Y.K) (he : PE X e (TM Y f)) : PE X (.Subscript e (.Slice none none (some (.UnaryOp .USub (.Constant (.int 1) k p1) p2)) p3) pos) (TM Y (eRev f)) := pe_imp (pe_revL he) fun σ H Q q => by
  obtain ⟨ρ, τ, h, u, h', G, e, to⟩ := q
  unfold eRev at e
  cases e1 : f τ h with
  | bad => simp only [e1] at e; cases e
  | ok t h1 =>
    simp only [e1] at e
    split at e
    · rename_i ts ets
      cases e
      refine ⟨ρ, τ, h, t, _, G, e1, ⟨fun ρ1 H1 v ev hr1 r => ?_⟩⟩
      obtain ⟨a, vs, rfl, hs, hz, rs⟩ := listOf_ok r hr1 ets
      rw [hK]
      refine ⟨a, vs, rfl, hs, fun p hp => ?_⟩
      obtain ⟨n1, n2⟩ := newL' hr1 rs.reverse (by rw [List.length_reverse]; exact hz) hp
      exact to.to ρ1 _ _ (ev.trans (Ev.new hp)) n1 n2
    · cases e
/-! ### three names at once -/
def sPar3 (i j l : Nat) (g : MA) : MS := fun τ h => match g τ h with
  | .ok [t, u, w] h1 => .nx (((τ.set i (some t)).set j (some u)).set l (some w)) h1
  | _ => .bad
theorem xsPar3 {i j l : Nat} {x y z : Str} {a b c : Expr} {g : MA} {px py pz pt pos : Pos} {kt k2 pt2} (hc : X.calm = true) (hN : X.N.Nodup) (hi : X.N[i]? = some x) (hj : X.N[j]? = some y) (hl : X.N[l]? = some z) (hij : i ≠ j) (hil : i ≠ l) (hjl : j ≠ l)
    (hx : X.env.scope.names.lookup x = some .local) (hy : X.env.scope.names.lookup y = some .local) (hz : X.env.scope.names.lookup z = some .local) (ha : PA X [a, b, c] (TMA Y g))
    (hw : swappedStores [.Tuple [.Name x px, .Name y py, .Name z pz] kt pt] (.Tuple [a, b, c] k2 pt2) X.env = pure (some [x, y, z]))
    (hs : swapsWithSole [.Tuple [.Name x px, .Name y py, .Name z pz] kt pt] (.Tuple [a, b, c] k2 pt2) pos.line X.env = pure false := by rfl) :
    PS X (.Assign [.Tuple [.Name x px, .Name y py, .Name z pz] kt pt] (.Tuple [a, b, c] k2 pt2) pos) (TMS Y (sPar3 i j l g)) := ps_imp (ps_par3 hc hN hi hj hl hij hil hjl hx hy hz ha hw hs) fun D σ H q => by
  obtain ⟨ρ, τ, h, G, to⟩ := q
  unfold sPar3 at to
  split at to
  · rename_i t u w h1 e1
    refine ⟨ρ, τ, h, [t, u, w], h1, G, e1, ⟨fun ρ1 H1 vs ev hr r => ?_⟩⟩
    cases r with
    | cons r1 r2 =>
      cases r2 with
      | cons r2 r3 =>
        cases r3 with
        | cons r3 r4 =>
          cases r4
          exact ⟨_, _, _, rfl, to ρ1 H1 _ ev hr ((((G.sl.ev ev.toEvR).set i r1).set j r2).set l r3)⟩
  · exact to.elim
end
end TL

set_option Elab.async false
set_option linter.all false
set_option maxRecDepth 100000
set_option maxHeartbeats 4000000
namespace TL
open PySem PySem.Spec L2
section
variable {X : Cx} {Y : Wd}
/-! ### methods of built-in types -/
/-- the receiver is of the built-in type ty -/
def MT (Y : Wd) (ty : String) (r : V → List V → Hp → VK → Prop) (b : T → List T → VH → Res T) : Prop := ∀ ρ0 H0 h0 ρ H o ts vo vs h t h' Q, Rp Y ρ0 H0 o vo → HR Y ρ0 H0 h0 → Ev ρ0 H0 ρ H → Rps Y ρ H ts vs → HR Y ρ H h → b o ts h = .ok t h' → To Y (Rp Y) ρ H t h' Q → r vo vs H Q
def tyT (h : VH) (ty : String) : T → Bool
  | .str _ => ty == "str"
  | .lst _ => ty == "list"
  | .ref n => match h[n]? with
    | some (.lst _) => ty == "list"
    | some (.dct _) => ty == "dict"
    | _ => false
  | _ => false
theorem tyT_ok {ρ : Rh} {H : Hp} {h : VH} {ty : String} {t : T} {v : V} (r : Rp Y ρ H t v) (hr : HR Y ρ H h) (e : tyT h ty t = true) : tyV Y.K ty v H := by
  cases r with
  | str hx => exact eq_of_beq e
  | lst la rs => exact .inl ⟨eq_of_beq e, _, la.sq⟩
  | @ref n a ha =>
    simp only [tyT] at e
    split at e
    · rename_i ts eo
      obtain ⟨vs, h1, hz, h2⟩ := hr.at_ n _ a eo ha
      exact .inl ⟨eq_of_beq e, vs, .inl (.inl h1)⟩
    · rename_i ts eo
      obtain ⟨vs, h1, h2⟩ := hr.at_ n _ a eo ha
      exact .inr (.inr (.inl ⟨eq_of_beq e, .inl ⟨vs, h1⟩⟩))
    · cases e
  | _ => cases e
def eMt (ty : String) (b : T → List T → VH → Res T) (f : ME) (g : MA) : ME := fun τ h => match f τ h with
  | .ok o h1 => if tyT h1 ty o = true then (match g τ h1 with
    | .ok ts h2 => b o ts h2
    | .bad => .bad) else .bad
  | .bad => .bad
theorem tm_mt {ty : String} {r : V → List V → Hp → VK → Prop} {b : T → List T → VH → Res T} (mt : MT Y ty r b) {f : ME} {g : MA} {σ : St} {H : Hp} {Q : VK} (q : TM Y (eMt ty b f g) σ H Q) : tBM Y.K ty r (TM Y f) (TMA Y g) σ H Q := by
  obtain ⟨ρ, τ, h, t, h', G, e, to⟩ := q
  unfold eMt at e
  cases e1 : f τ h with
  | bad => simp only [e1] at e; cases e
  | ok o h1 =>
    simp only [e1] at e
    split at e
    · rename_i hty
      refine ⟨ρ, τ, h, o, h1, G, e1, ⟨fun ρ1 H1 vo ev hr1 ro => ⟨tyT_ok ro hr1 hty, ?_⟩⟩⟩
      cases e2 : g τ h1 with
      | bad => simp only [e2] at e; cases e
      | ok ts h2 =>
        simp only [e2] at e
        exact ⟨ρ1, τ, h1, ts, h2, G.ev ev hr1, e2, ⟨fun ρ2 H2 vs ev2 hr2 rs => mt ρ1 H1 h1 ρ2 H2 o ts vo vs h2 t h' Q ro hr1 ev2 rs hr2 e (to.ev (ev.trans ev2))⟩⟩
    · cases e
theorem xMt {o e : Expr} {es : List Expr} {f : ME} {g : MA} {name : Str} {apos cpos : Pos} {ty id : String} {r : V → List V → Hp → VK → Prop} {b : T → List T → VH → Res T} (mt : MT Y ty r b) (hK : X.K = Y.K) (pa : PlainAttrs ty) (slot : Slot ty name id) (hty : typeOf (.builtin id) = pure (.type "method_descriptor")) (hm : MtR X id r) (ho : PE X o (TM Y f)) (ha : PA X (e :: es) (TMA Y g))
    (hbase : attributeBase o name X.env (eval o X.env) = eval o X.env := by rfl)
    (hfew : ((backTo cpos (starEach (e :: es) X.env)).all (fun x => !x.1) && (backToKw cpos (keywordEach [] X.env)).all (fun x => x.1.isSome)
      && decide ((e :: es).length + ([] : List Keyword).length + (if ([] : List Keyword).isEmpty then 0 else 1) < 30)) = true := by rfl)
    (hline : (apos.endLine == cpos.line) = true := by rfl) (hs : starEach (e :: es) X.env = (false, eval e X.env) :: starEach es X.env := by rfl) (hplain : (backTo cpos (starEach es X.env)).any (·.1) = false := by rfl) :
    PE X (.Call (.Attribute o name apos) (e :: es) [] cpos) (TM Y (eMt ty b f g)) := pe_imp (pe_bm pa slot hty hm ho ha hbase hfew hline hs hplain) fun σ H Q q => by rw [hK]; exact tm_mt mt q
theorem xMt0 {o : Expr} {f : ME} {name : Str} {apos cpos : Pos} {ty id : String} {r : V → List V → Hp → VK → Prop} {b : T → List T → VH → Res T} (mt : MT Y ty r b) (hK : X.K = Y.K) (pa : PlainAttrs ty) (slot : Slot ty name id) (hty : typeOf (.builtin id) = pure (.type "method_descriptor")) (hm : MtR X id r) (ho : PE X o (TM Y f))
    (hbase : attributeBase o name X.env (eval o X.env) = eval o X.env := by rfl) (hline : (apos.endLine == cpos.line) = true := by rfl) :
    PE X (.Call (.Attribute o name apos) [] [] cpos) (TM Y (eMt ty b f aNil)) := pe_imp (pe_bm0 pa slot hty hm ho hbase hline) fun σ H Q q => by
  obtain ⟨ρ, τ, h, t, h', G, e, to⟩ := tm_mt mt q
  rw [hK]
  refine ⟨ρ, τ, h, t, h', G, e, ⟨fun ρ1 H1 vo ev hr r => ?_⟩⟩
  obtain ⟨h1, ρ2, τ2, h2, ts, h3, G2, e2, to2⟩ := to.to ρ1 H1 vo ev hr r
  cases e2
  exact ⟨h1, to2.to ρ2 H1 [] .refl G2.hr .nil⟩
/-- the receiver, later -/
theorem ev_ref {ρ0 ρ : Rh} {H0 H : Hp} {n : Nat} {a : Addr} (r : Rp Y ρ0 H0 (.ref n) (.ref a)) (ev : Ev ρ0 H0 ρ H) : ρ.ix[n]? = some a := by
  cases r with
  | ref h => exact ev.toEvR.get h
/-- xs.append(y) -/
def mAppend (o : T) (ts : List T) (h : VH) : Res T := match o, ts with
  | .ref n, [y] => (match h[n]? with
    | some (.lst xs) => if xs.length < 16777216 then .ok .non (h.set n (.lst (xs ++ [y]))) else .bad
    | _ => .bad)
  | _, _ => .bad
theorem mt_append' : MT Y "list" rAppend mAppend := fun ρ0 H0 h0 ρ H o ts vo vs h t h' Q ro hr0 ev r hr e to => by
  unfold mAppend at e
  split at e
  · rename_i n y
    split at e
    · rename_i xs eo
      split at e
      · rename_i hz
        cases e
        obtain ⟨v, rfl, rv⟩ := rps_one r
        cases ro with
        | @ref _ a ha =>
          have ha' := ev.toEvR.get ha
          obtain ⟨ws, h1, hz1, rs⟩ := hr.at_ n _ a eo ha'
          have hl := rs.length
          have mem := List.mem_of_getElem? ha'
          have e1 : Ev ρ H ρ (upd H a (.lst (ws ++ [v]))) := Ev.write mem
          refine ⟨a, ws, v, rfl, rfl, h1, by rw [hl, sizeLine_eq]; exact hz, to.to ρ _ _ e1 (hr.write ha' ⟨_, upd_same, ?_, (rs.snoc rv).ev e1.toEvR⟩) .non⟩
          rw [List.length_append, hl, sizeLine_eq]
          simp; omega
      · cases e
    · cases e
  · cases e
/-- xs.pop(i) -/
def mPopAt (o : T) (ts : List T) (h : VH) : Res T := match o, ts with
  | .ref n, [.int i] => (match h[n]? with
    | some (.lst xs) => if -1000000000 ≤ i ∧ i ≤ 1000000000 then (match seqIndex? i xs.length with
      | some k => (match xs[k]? with
        | some y => .ok y (h.set n (.lst (xs.eraseIdx k)))
        | none => .bad)
      | none => .bad) else .bad
    | _ => .bad)
  | _, _ => .bad
theorem Rps.eraseIdx {ρ : Rh} {H : Hp} : ∀ {ts : List T} {vs : List V} (i : Nat), Rps Y ρ H ts vs → Rps Y ρ H (ts.eraseIdx i) (vs.eraseIdx i)
  | _, _, _, .nil => by simp; exact .nil
  | _, _, 0, .cons _ b => b
  | _, _, i + 1, .cons a b => .cons a (Rps.eraseIdx i b)
theorem mt_popAt' : MT Y "list" rPopAt mPopAt := fun ρ0 H0 h0 ρ H o ts vo vs h t h' Q ro hr0 ev r hr e to => by
  unfold mPopAt at e
  split at e
  · rename_i n i
    split at e
    · rename_i xs eo
      split at e
      · rename_i hz
        split at e
        · rename_i k ek
          split at e
          · rename_i y ey
            cases e
            obtain ⟨v, rfl, rv⟩ := rps_one r
            cases rv
            cases ro with
            | @ref _ a ha =>
              have ha' := ev.toEvR.get ha
              obtain ⟨ws, h1, hz1, rs⟩ := hr.at_ n _ a eo ha'
              have hl := rs.length
              have mem := List.mem_of_getElem? ha'
              obtain ⟨w, ew, rw'⟩ := rs.get ey
              have e1 : Ev ρ H ρ (upd H a (.lst (ws.eraseIdx k))) := Ev.write mem
              refine ⟨a, ws, i, k, w, rfl, rfl, h1, by omega, by omega, by rw [hl]; exact ek, ew, to.to ρ _ _ e1 (hr.write ha' ⟨_, upd_same, ?_, (rs.eraseIdx k).ev e1.toEvR⟩) (rw'.ev e1.toEvR)⟩
              exact Nat.le_trans (len_erase ws k) hz1
          · cases e
        · cases e
      · cases e
    · cases e
  · cases e
/-- x.split(sep): a new list -/
theorem strs_rps {ρ : Rh} {H : Hp} : ∀ {xs : List Str}, (∀ x ∈ xs, x.length ≤ 1000000) → Rps Y ρ H (xs.map T.str) (xs.map V.str)
  | [], _ => .nil
  | x :: xs, h => .cons (.str (h x List.mem_cons_self)) (strs_rps fun y hy => h y (List.mem_cons_of_mem _ hy))
def strsOf : List T → Option (List Str)
  | [] => some []
  | .str i :: r => (strsOf r).map (i :: ·)
  | _ => none
theorem strsOf_ok {ρ : Rh} {H : Hp} : ∀ {ts : List T} {vs : List V} {ns : List Str}, Rps Y ρ H ts vs → strsOf ts = some ns → vs = ns.map V.str
  | [], _, ns, r, e => by cases r; cases e; rfl
  | t :: ts, _, ns, r, e => by
    cases r with
    | cons a b =>
      cases t with
      | str i =>
        simp only [strsOf, Option.map_eq_some_iff] at e
        obtain ⟨ms, e1, rfl⟩ := e
        cases a
        rw [strsOf_ok b e1]; rfl
      | _ => cases e
def rSplit : V → List V → Hp → VK → Prop := fun x xs H Q => ∃ a b, x = .str a ∧ xs = [.str b] ∧ (b.length == 0) = false ∧ a.length + 2 ≤ sizeLine ∧ rNewStrs (Txt.split a b) H Q
def shortAll (xs : List Str) : Bool := xs.all fun x => decide (x.length ≤ 1000000)
def mSplit (o : T) (ts : List T) (h : VH) : Res T := match o, ts with
  | .str a, [.str b] => if ((b.length == 0) = false ∧ (Txt.split a b).length ≤ 16777216) ∧ shortAll (Txt.split a b) = true then .ok (.lst ((Txt.split a b).map T.str)) h else .bad
  | _, _ => .bad
theorem mt_split' : MT Y "str" rSplit mSplit := fun ρ0 H0 h0 ρ H o ts vo vs h t h' Q ro hr0 ev r hr e to => by
  unfold mSplit at e
  split at e
  · rename_i a b
    split at e
    · rename_i hz
      cases e
      obtain ⟨v, rfl, rv⟩ := rps_one r
      cases rv
      cases ro with
      | str hx =>
        refine ⟨a, b, rfl, rfl, hz.1.1, by rw [sizeLine_eq]; omega, fun p hp => ?_⟩
        obtain ⟨n1, n2⟩ := newL' hr (strs_rps fun x hx => of_decide_eq_true (List.all_eq_true.mp hz.2 x hx)) (by rw [List.length_map, sizeLine_eq]; exact hz.1.2) hp
        exact to.to ρ _ _ (Ev.new hp) n1 n2
    · cases e
  · cases e
/-- sep.join(texts) -/
def rJoin (K : PySem.W.Frag) : V → List V → Hp → VK → Prop := fun x xs H Q => ∃ a p, ∃ ys : List Str, x = .str a ∧ xs = [.ref p] ∧ (SqL K H p (ys.map V.str) ∨ SqT K H p (ys.map V.str)) ∧
    (ys.map (·.length)).sum + ys.length * a.length ≤ 16777216 ∧ Q (.str (Txt.join a ys)) H
def mJoin (o : T) (ts : List T) (h : VH) : Res T := match o, ts with
  | .str a, [t] => (match seqOf h t with
    | some us => (match strsOf us with
      | some ys => if (ys.map (·.length)).sum + ys.length * a.length ≤ 1000000 then .ok (.str (Txt.join a ys)) h else .bad
      | none => .bad)
    | none => .bad)
  | _, _ => .bad
theorem mt_join' : MT Y "str" (rJoin Y.K) mJoin := fun ρ0 H0 h0 ρ H o ts vo vs h t h' Q ro hr0 ev r hr e to => by
  unfold mJoin at e
  split at e
  · rename_i a t
    split at e
    · rename_i us e1
      split at e
      · rename_i ys e2
        split at e
        · rename_i hz
          cases e
          obtain ⟨v, rfl, rv⟩ := rps_one r
          obtain ⟨p, ws, rfl, hs, hz1, rs⟩ := seqOf_ok rv hr e1
          rw [strsOf_ok rs e2] at hs
          cases ro with
          | str hx =>
            refine ⟨a, p, ys, rfl, rfl, hs, by omega, to.to ρ H _ .refl hr (.str ?_)⟩
            unfold Txt.join
            rw [StrLaws.glued_eq_join]
            exact Nat.le_trans (StrLaws.join_length_le a ys) hz
        · cases e
      · cases e
    · cases e
  · cases e
/-- xs[i] = v -/
def bSetL (o i t : T) (h : VH) : Res Unit := match o, i with
  | .ref n, .int k => (match h[n]? with
    | some (.lst xs) => (match ixN xs.length k with
      | some j => .ok () (h.set n (.lst (xs.set j t)))
      | none => .bad)
    | _ => .bad)
  | _, _ => .bad
theorem st_setL : ST Y rSetL bSetL := fun ρ H o i t vo vi v h h' Q ro ri rt hr e to => by
  unfold bSetL at e
  split at e
  · rename_i n k
    split at e
    · rename_i xs eo
      split at e
      · rename_i j ej
        cases e
        cases ri
        cases ro with
        | @ref _ a ha =>
          obtain ⟨ws, h1, hz1, rs⟩ := hr.at_ n _ a eo ha
          have e1 : Ev ρ H ρ (upd H a (.lst (ws.set j v))) := Ev.write (List.mem_of_getElem? ha)
          exact ⟨a, ws, k, j, rfl, rfl, h1, by rw [rs.length]; exact ej, to ρ _ e1 (hr.write ha ⟨_, upd_same, by rw [List.length_set]; exact hz1, (rs.set rt j).ev e1.toEvR⟩)⟩
      · cases e
    · cases e
  · cases e
/-! ### the module's names -/
theorem xGlob {x : Str} {v : V} {u : Value} {t : T} {pos : Pos} (hg : Gl X x) (hm : X.mg x = some u) (r : RelV v u) (rp : ∀ ρ H, Rp Y ρ H t v) (hd : (x == ("__debug__" : Str)) = false := by decide) : PE X (.Name x pos) (TM Y (eK t)) :=
  pe_imp (pe_glob hg hm r hd) fun σ H Q q => tm_k rp σ H Q q
/-! ### attributes -/
def getI (h : VH) : T → Option (Nat × List T)
  | .obj c fs => some (c, fs)
  | .ref n => match h[n]? with
    | some (.ins c fs) => some (c, fs)
    | _ => none
  | _ => none
theorem getI_ok {ρ : Rh} {H : Hp} {h : VH} {t : T} {v : V} {c : Nat} {fs : List T} (r : Rp Y ρ H t v) (hr : HR Y ρ H h) (e : getI h t = some (c, fs)) : ∃ a C dx vfs, v = .ref a ∧ Y.cm c = some C ∧ H a = some (.ins C dx vfs) ∧ vfs.map (·.1) = (Y.fn c).take fs.length ∧ Rps Y ρ H fs (vfs.map (·.2)) := by
  cases r with
  | obj hc ho hh hn rs => cases e; exact ⟨_, _, _, _, rfl, hc, hh, hn, rs⟩
  | @ref n a ha =>
    simp only [getI] at e
    split at e
    · rename_i c' fs' eo
      cases e
      obtain ⟨C, dx, vfs, hc, h1, hn, rs⟩ := hr.at_ n _ a eo ha
      exact ⟨a, C, dx, vfs, rfl, hc, h1, hn, rs⟩
    · cases e
  | _ => cases e
theorem lookup_at : ∀ {vfs : List (Str × V)} {i : Nat} {f : Str} {v : V}, (vfs.map (·.1)).Nodup → (vfs.map (·.1))[i]? = some f → (vfs.map (·.2))[i]? = some v → vfs.lookup f = some v
  | [], _, _, _, _, h, _ => by simp at h
  | (g, w) :: r, 0, f, v, hn, h1, h2 => by
    simp at h1 h2
    subst h1 h2
    simp [List.lookup]
  | (g, w) :: r, i + 1, f, v, hn, h1, h2 => by
    simp at h1 h2
    rw [List.map_cons, List.nodup_cons] at hn
    have ne : (f == g) = false := by
      apply beq_false_of_ne
      intro z
      subst z
      obtain ⟨w', hw'⟩ := h1
      exact hn.1 (List.mem_map.mpr ⟨_, List.mem_of_getElem? hw', rfl⟩)
    simp only [List.lookup, ne]
    exact lookup_at hn.2 (by simpa using h1) (by simpa using h2)
end
end TL

set_option Elab.async false
set_option linter.all false
set_option maxRecDepth 100000
set_option maxHeartbeats 4000000
namespace TL
open PySem PySem.Spec L2
section
variable {X : Cx} {Y : Wd}
theorem take_nodup {α : Type} {l : List α} (h : l.Nodup) (n : Nat) : (l.take n).Nodup := h.sublist (List.take_sublist n l)
theorem take_at {α : Type} {l : List α} {n i : Nat} {x : α} (h : l[i]? = some x) (hi : i < n) : (l.take n)[i]? = some x := by
  rw [List.getElem?_take_of_lt hi]; exact h
/-- e.f, field i of class c -/
def eFld (c i : Nat) (f : ME) : ME := fun τ h => match f τ h with
  | .ok t h1 => (match getI h1 t with
    | some (c', fs) => if c' = c then (match fs[i]? with
      | some u => .ok u h1
      | none => .bad) else .bad
    | none => .bad)
  | .bad => .bad
theorem xFld {c i : Nat} {C : Addr} {e : Expr} {f : Str} {g : ME} {pos : Pos} (hK : X.K = Y.K) (hc : Y.cm c = some C) (hf : (Y.fn c)[i]? = some f) (hn : (Y.fn c).Nodup) (cl : Cls Y.K C) (na : NoAttr Y.K C f) (he : PE X e (TM Y g)) (hb : attributeBase e f X.env (eval e X.env) = eval e X.env := by rfl) :
    PE X (.Attribute e f pos) (TM Y (eFld c i g)) := pe_imp (pe_fld he hb) fun σ H Q q => by
  obtain ⟨ρ, τ, h, t, h', G, e, to⟩ := q
  unfold eFld at e
  cases e1 : g τ h with
  | bad => simp only [e1] at e; cases e
  | ok o h1 =>
    simp only [e1] at e
    split at e
    · rename_i c' fs eo
      split at e
      · rename_i ec
        subst ec
        split at e
        · rename_i u eu
          cases e
          refine ⟨ρ, τ, h, o, _, G, e1, ⟨fun ρ1 H1 v ev hr r => ?_⟩⟩
          obtain ⟨a, C', dx, vfs, rfl, hc', ha, hm, rs⟩ := getI_ok r hr eo
          rw [hc] at hc'
          cases hc'
          obtain ⟨w, ew, rw'⟩ := rs.get eu
          have hi : i < fs.length := (List.getElem?_eq_some_iff.mp eu).1
          rw [hK]
          exact ⟨a, C, dx, vfs, w, rfl, ha, cl, na, lookup_at (by rw [hm]; exact take_nodup hn _) (by rw [hm]; exact take_at hf hi) ew, to.to ρ1 H1 _ ev hr rw'⟩
        · cases e
      · cases e
    · cases e
/-! ### o.f = v -/
def gFldR (K : PySem.W.Frag) (ta : TE) (f : Str) : TG := fun v σ H Q => ta σ H fun x H2 => ∃ a C dx fs, x = .ref a ∧ H2 a = some (.ins C dx fs) ∧ Cls K C ∧ NoAttr K C f ∧ fs.length < 1000 ∧ Q σ (upd H2 a (.ins C dx (putF f v fs)))
theorem pg_fldR {o : Expr} {f : Str} {ta : TE} {pos : Pos} (ha : PE X o ta) : PG X (.Attribute o f pos) (gFldR X.K ta f) := by
  refine ⟨fun pins s σ H v u Q I r h => ?_⟩
  refine PySem.W.kas_attr (thn (ha.run pins s σ H _ I h) fun ov s2 ⟨x, H2, I2, rx, a, C, dx, fs, ex, ea, c, n, l, q2⟩ => ?_)
  subst ex
  obtain rfl : ov = Value.ref a := rx
  exact setattr_ok I2 ea c n l r fun s3 I3 => ⟨σ, _, I3, q2⟩
theorem putF_new : ∀ {vfs : List (Str × V)} {f : Str} {v : V}, f ∉ vfs.map (·.1) → putF f v vfs = vfs ++ [(f, v)]
  | [], f, v, _ => rfl
  | (g, w) :: r, f, v, h => by
    simp only [List.map_cons, List.mem_cons, not_or] at h
    unfold putF
    rw [if_neg (fun z => h.1 z.symm), putF_new h.2]
    rfl
theorem putF_old : ∀ {vfs : List (Str × V)} {i : Nat} {f : Str} {v : V}, (vfs.map (·.1)).Nodup → (vfs.map (·.1))[i]? = some f → (putF f v vfs).map (·.1) = vfs.map (·.1) ∧ (putF f v vfs).map (·.2) = (vfs.map (·.2)).set i v
  | [], _, _, _, _, h => by simp at h
  | (g, w) :: r, 0, f, v, hn, h1 => by
    simp at h1
    subst h1
    unfold putF
    simp
  | (g, w) :: r, i + 1, f, v, hn, h1 => by
    simp at h1
    rw [List.map_cons, List.nodup_cons] at hn
    have ne : ¬ f = g := fun z => by
      subst z
      obtain ⟨w', hw'⟩ := h1
      exact hn.1 (List.mem_map.mpr ⟨_, List.mem_of_getElem? hw', rfl⟩)
    unfold putF
    rw [if_neg (fun z => ne z.symm)]
    obtain ⟨q1, q2⟩ := putF_old (v := v) hn.2 (by simpa using h1)
    simp [q1, q2]
def mgFld (c i : Nat) (f : ME) : MG := fun t τ h => match f τ h with
  | .ok (.ref n) h1 => (match h1[n]? with
    | some (.ins c' fs) => if c' = c ∧ i ≤ fs.length then .ok τ (h1.set n (.ins c (if i < fs.length then fs.set i t else fs ++ [t]))) else .bad
    | _ => .bad)
  | _ => .bad
theorem getI_of_take {α : Type} {l : List α} {n : Nat} : (l.take n).length = min n l.length := List.length_take
theorem ins_set {ρ : Rh} {H : Hp} {n : Nat} {a : Addr} {c i : Nat} {C dx : Addr} {fs : List T} {vfs : List (Str × V)} {f : Str} {t : T} {v : V} {h : VH} (hr : HR Y ρ H h) (ha : ρ.ix[n]? = some a) (hc : Y.cm c = some C) (hf : (Y.fn c)[i]? = some f) (hn : (Y.fn c).Nodup)
    (hm : vfs.map (·.1) = (Y.fn c).take fs.length) (rs : Rps Y ρ H fs (vfs.map (·.2))) (rt : Rp Y ρ H t v) (hi : i ≤ fs.length) :
    HR Y ρ (upd H a (.ins C dx (putF f v vfs))) (h.set n (.ins c (if i < fs.length then fs.set i t else fs ++ [t]))) := by
  have e1 : Ev ρ H ρ (upd H a (.ins C dx (putF f v vfs))) := Ev.write (List.mem_of_getElem? ha)
  have hl : vfs.length = fs.length := by have := rs.length; simpa using this
  have hlen : ((Y.fn c).take fs.length).length = fs.length := by rw [← hm, List.length_map, hl]
  refine hr.write ha ?_
  by_cases q : i < fs.length
  · rw [if_pos q]
    obtain ⟨q1, q2⟩ := putF_old (v := v) (vfs := vfs) (i := i) (f := f) (by rw [hm]; exact take_nodup hn _) (by rw [hm]; exact take_at hf q)
    refine ⟨C, dx, _, hc, upd_same, ?_, ?_⟩
    · rw [q1, hm, List.length_set]
    · rw [q2]
      exact (rs.set rt i).ev e1.toEvR
  · rw [if_neg q]
    have ei : i = fs.length := by omega
    have nin : f ∉ vfs.map (·.1) := by
      rw [hm]
      intro z
      obtain ⟨j, hj, ej⟩ := List.getElem_of_mem z
      rw [List.getElem_take] at ej
      have hj2 : j < fs.length := by rw [hlen] at hj; exact hj
      obtain ⟨hi3, e3⟩ := List.getElem?_eq_some_iff.mp hf
      have := (List.getElem_inj hn).mp (ej.trans e3.symm)
      omega
    refine ⟨C, dx, _, hc, upd_same, ?_, ?_⟩
    · rw [putF_new nin, List.map_append, hm, List.length_append]
      simp only [List.map_cons, List.map_nil, List.length_singleton]
      rw [List.take_succ, ← ei, hf]
      rfl
    · have z := (rs.snoc rt).ev e1.toEvR
      rw [putF_new nin] at z ⊢
      rw [List.map_append]
      exact z
theorem xgFld {c i : Nat} {C : Addr} {o : Expr} {f : Str} {g : ME} {pos : Pos} (hK : X.K = Y.K) (hc : Y.cm c = some C) (hf : (Y.fn c)[i]? = some f) (hn : (Y.fn c).Nodup) (hz : (Y.fn c).length < 1000) (cl : Cls Y.K C) (na : NoAttr Y.K C f) (ho : PE X o (TM Y g)) : PG X (.Attribute o f pos) (TMG Y (mgFld c i g)) :=
  pg_imp (pg_fldR ho) fun v σ H Q q => by
    obtain ⟨ρ, τ, h, t, τ', h', G, r, e, to⟩ := q
    unfold mgFld at e
    split at e
    · rename_i n h1 e1
      split at e
      · rename_i c' fs eo
        split at e
        · rename_i q
          obtain ⟨rfl, hi⟩ := q
          cases e
          refine ⟨ρ, τ, h, _, h1, G, e1, ⟨fun ρ1 H1 w ev hr1 rw' => ?_⟩⟩
          cases rw' with
          | @ref _ a ha =>
            obtain ⟨C', dx, vfs, hc', hh, hm, rs⟩ := hr1.at_ n _ a eo ha
            rw [hc] at hc'
            cases hc'
            rw [hK]
            have hl : vfs.length = fs.length := by have := rs.length; simpa using this
            have hlen : fs.length ≤ (Y.fn c').length := by
              have := congrArg List.length hm
              rw [List.length_map, List.length_take] at this
              omega
            have hw := ins_set (dx := dx) (i := i) hr1 ha hc hf hn hm rs (r.ev ev.toEvR) hi
            have ev1 : Ev ρ1 H1 ρ1 (upd H1 a (.ins C dx (putF f v vfs))) := Ev.write (List.mem_of_getElem? ha)
            exact ⟨a, C, dx, vfs, rfl, hh, cl, na, by omega, to ρ1 _ σ (ev.trans ev1) hw (G.sl.ev (ev.trans ev1).toEvR)⟩
        · cases e
      · cases e
    · cases e
/-- o.f = v, alone -/
theorem xsFld {c i : Nat} {C : Addr} {o e : Expr} {f : Str} {g m : ME} {pos pos' : Pos} (hK : X.K = Y.K) (hc : Y.cm c = some C) (hf : (Y.fn c)[i]? = some f) (hn : (Y.fn c).Nodup) (hz : (Y.fn c).length < 1000) (cl : Cls Y.K C) (na : NoAttr Y.K C f) (ho : PE X o (TM Y g)) (he : PE X e (TM Y m))
    (hs : swapsWithSole [.Attribute o f pos'] e pos.line X.env = pure false := by rfl) (hw : swappedStores [.Attribute o f pos'] e X.env = pure none := by rfl)
    (h1 : (assignEach [.Attribute o f pos'] X.env).map (·.2) = [assign (.Attribute o f pos') X.env] := by rfl) : PS X (.Assign [.Attribute o f pos'] e pos) (TMS Y (sAsg m (mgFld c i g))) := xsAsg he (xgFld hK hc hf hn hz cl na ho) hs hw h1
/-! ### a new instance -/
def rMake (C : Addr) (sp : Sp) (E : XK) : List V → Hp → VK → Prop := fun vs H1 Q => ∀ x dx, H1 x = none → H1 dx = none → dx ≠ x → sp (V.ref x :: (vs ++ [])) (upd (upd H1 dx (HO.own x)) x (HO.ins C dx [])) (fun v H2 => v = V.non ∧ Q (V.ref x) H2) E
def makeM (c : Nat) (m : List T → VH → Res T) : List T → VH → Res T := fun ts h => match m (.ref h.length :: ts) (h ++ [.ins c []]) with
  | .ok .non h' => .ok (.ref h.length) h'
  | _ => .bad
theorem ct_make {c : Nat} {C : Addr} {m : List T → VH → Res T} {E : XK} (hc : Y.cm c = some C) : CT Y (rMake C (spM Y m) E) (makeM c m) := fun ρ H ts vs h t h' Q r hr e to => by
  unfold makeM at e
  split at e
  · rename_i h1 e1
    cases e
    intro x dx hx hdx hne
    rw [List.append_nil]
    have evd : Ev ρ H ρ (upd H dx (.own x)) := Ev.new hdx
    have hr1 : HR Y ρ (upd H dx (.own x)) h := hr.new hdx
    have hx1 : (upd H dx (.own x)) x = none := by rw [upd_ne (fun z => hne z.symm)]; exact hx
    have evx : Ev ρ (upd H dx (.own x)) (ρ.push x) (upd (upd H dx (.own x)) x (.ins C dx [])) := Ev.newρ hx1
    have hr2 : HR Y (ρ.push x) (upd (upd H dx (.own x)) x (.ins C dx [])) (h ++ [.ins c []]) := hr1.push hx1 ⟨C, dx, [], hc, upd_same, by simp, .nil⟩
    have ev2 := evd.trans evx
    have hix : (ρ.push x).ix[h.length]? = some x := by
      show (ρ.ix ++ [x])[h.length]? = _
      rw [List.getElem?_append_right (by rw [hr.len]; exact Nat.le_refl _), hr.len]
      simp
    refine ⟨ρ.push x, _, _, _, _, .cons (.ref hix) (r.ev ev2.toEvR), hr2, e1, ⟨fun ρ3 H3 v ev3 hr3 r3 => ?_⟩⟩
    cases r3
    exact ⟨rfl, to.to ρ3 H3 _ (ev2.trans ev3) hr3 (.ref (ev3.toEvR.get hix))⟩
  · cases e
/-! ### what a call leaves behind is cut off -/
def VO.lowR (n : Nat) : VO → Bool
  | .lst ts => lowRs n ts
  | .ins _ fs => lowRs n fs
  | .dct kvs => lowRs n (kvs.map (·.1)) && lowRs n (kvs.map (·.2))
theorem OR.cut {ρ ρ' : Rh} {H : Hp} (s : Sub ρ ρ') {a : Addr} {o : VO} (r : OR Y ρ' H a o) (q : o.lowR ρ.ix.length = true) : OR Y ρ H a o := by
  cases o with
  | lst ts => obtain ⟨vs, h1, hz, h2⟩ := r; exact ⟨vs, h1, hz, h2.down s q⟩
  | ins c fs => obtain ⟨C, dx, vfs, hc, h1, hn, h2⟩ := r; exact ⟨C, dx, vfs, hc, h1, hn, h2.down s q⟩
  | dct kvs =>
    simp only [VO.lowR, Bool.and_eq_true] at q
    obtain ⟨vk, h1, h2, h3⟩ := r
    exact ⟨vk, h1, h2.down s q.1, h3.down s q.2⟩
theorem HR.cut {ρ ρ' : Rh} {H H0 : Hp} {h h' : VH} (s : Sub ρ ρ') (r : HR Y ρ' H h') (q : HR Y ρ H0 h) (e : (h'.take h.length).all (VO.lowR h.length) = true) : HR Y ρ H (h'.take h.length) := by
  obtain ⟨m, em⟩ := s.ix
  have hl : ρ'.ix.length = h'.length := r.len
  have hl0 : ρ.ix.length = h.length := q.len
  have hle : h.length ≤ h'.length := by rw [← hl, em, List.length_append, hl0]; omega
  refine ⟨by rw [List.length_take, hl0]; omega, q.nd, fun a ha => ?_, fun n o a h1 h2 => ?_⟩
  · obtain ⟨b1, b2⟩ := r.bt a (by rw [s.bn]; exact ha)
    exact ⟨b1, fun z => b2 (by rw [em]; exact List.mem_append_left _ z)⟩
  · have hn : n < ρ.ix.length := (List.getElem?_eq_some_iff.mp h2).1
    have h3 : h'[n]? = some o := by
      rw [List.getElem?_take_of_lt (by rw [← hl0]; exact hn)] at h1
      exact h1
    have h4 : ρ'.ix[n]? = some a := by
      rw [em, List.getElem?_append_left hn]
      exact h2
    exact (r.at_ n o a h3 h4).cut s (by rw [hl0]; exact List.all_eq_true.mp e o (List.mem_of_getElem? h1))
/-- a call whose new things are forgotten, but for what it hands back -/
def cutM (m : List T → VH → Res T) : List T → VH → Res T := fun ts h => match m ts h with
  | .ok t h' => if (h'.take h.length).all (VO.lowR h.length) = true then (match frz h.length h' 4 t with
    | some u => .ok u (h'.take h.length)
    | none => .bad) else .bad
  | .bad => .bad
theorem to_cut {ρ : Rh} {H : Hp} {h h' : VH} {t u : T} {Q : VK} (hr : HR Y ρ H h) (hq : (h'.take h.length).all (VO.lowR h.length) = true) (ef : frz h.length h' 4 t = some u) (to : To Y (Rp Y) ρ H u (h'.take h.length) Q) : To Y (Rp Y) ρ H t h' Q :=
  ⟨fun ρ' H' v ev hr' rv => by
    have s : Sub ρ ρ' := ⟨let ⟨m, e, _⟩ := ev.more; ⟨m, e⟩, ev.bn⟩
    have ex : Ev ρ H ρ H' := .mk' ⟨[], by simp⟩ rfl ev.keep ev.there
    exact to.to ρ H' v ex (hr'.cut s hr hq) (frz_ok s hr' 4 t v _ rv (by rw [hr.len]; exact ef))⟩
theorem ct_cut {r : List V → Hp → VK → Prop} {m : List T → VH → Res T} (ct : CT Y r m) : CT Y r (cutM m) := fun ρ H ts vs h u h1 Q rs hr e to => by
  unfold cutM at e
  split at e
  · rename_i t h' em
    split at e
    · rename_i hq
      split at e
      · rename_i u' ef
        cases e
        exact ct ρ H ts vs h t h' Q rs hr em (to_cut hr hq ef to)
      · cases e
    · cases e
  · cases e
theorem spM_cut {m : List T → VH → Res T} {vs : List V} {H : Hp} {Q : VK} {E : XK} (q : spM Y (cutM m) vs H Q E) : spM Y m vs H Q E := by
  obtain ⟨ρ, ts, h, u, h1, r, hr, e, to⟩ := q
  unfold cutM at e
  split at e
  · rename_i t h' em
    split at e
    · rename_i hq
      split at e
      · rename_i u' ef
        cases e
        exact ⟨ρ, ts, _, t, h', r, hr, em, to_cut hr hq ef to⟩
      · cases e
    · cases e
  · cases e
theorem fnCut {P : Program} {w : World} {K : PySem.W.Frag} {mg : Str → Option Value} {base : Heap} {k : Nat} {f : Addr} {fd : FuncData} {ps : List Str} {m : List T → VH → Res T} (F : FnOk P w K mg base CX0 k f fd ps (spM Y m)) : FnOk P w K mg base CX0 k f fd ps (spM Y (cutM m)) :=
  F.imp fun _ _ _ _ q => spM_cut q
/-- C(e, ..): made, and cut off -/
theorem xMake {c k : Nat} {f C : Addr} {fd : FuncData} {ps : List Str} {m : List T → VH → Res T} {x : Str} {p pos : Pos} {e : Expr} {es : List Expr} {g : MA} (hc : Y.cm c = some C) (M : Mk X.K C f) (F : FnOk X.prog X.w X.K X.mg X.base CX0 k f fd ps (spM Y m)) (hr : Room (k + 1) X.A) (hg : Gl X x) (hm : X.mg x = some (.ref C)) (hb : Binds X.K fd ps [])
    (ha : PA X (e :: es) (TMA Y g)) (hdb : (x == ("__debug__" : Str)) = false := by decide) (he : starEach (e :: es) X.env = (false, eval e X.env) :: starEach es X.env := by rfl) (hpl : (backTo pos (starEach es X.env)).any (·.1) = false := by rfl) :
    PE X (.Call (.Name x p) (e :: es) [] pos) (TM Y (eCall (cutM (makeM c m)) g)) := pe_imp (pe_make M F hr hg hm hb .nil pass0 ha hdb he hpl) fun σ H Q q => tm_call (ct_cut (ct_make (E := E0) hc)) q
/-! ### isinstance -/
inductive TyC where
  | b (n : String) | o (c : Nat)
/-- the type's name, or the class -/
def tyOf (h : VH) : T → Option TyC
  | .non => some (.b "NoneType")
  | .bl _ => some (.b "bool")
  | .int _ => some (.b "int")
  | .str _ => some (.b "str")
  | .tup _ => some (.b "tuple")
  | .lst _ => some (.b "list")
  | .arg _ => none
  | .obj c _ => some (.o c)
  | .ref n => match h[n]? with
    | some (.lst _) => some (.b "list")
    | some (.ins c _) => some (.o c)
    | some (.dct _) => some (.b "dict")
    | none => none
def TyC.v (Y : Wd) : TyC → Value → Prop
  | .b n, u => u = .type n
  | .o c, u => ∃ C, Y.cm c = some C ∧ u = .ref C
def tyNames : List String := ["NoneType", "bool", "int", "str", "tuple", "list", "dict"]
def TyC.fit : TyC → Bool
  | .b n => tyNames.contains n
  | .o _ => true
/-- a class of the text, its facts -/
structure CF (K : PySem.W.Frag) (C : Addr) : Prop where
  cls : Cls K C
  at_ : PySem.W.findIn K (.ref C) "__class__" = some (some (.builtin "object.__class__"))
  sp : PySem.W.specialIn K (.builtin "object.__class__") "__get__" = some (some (.builtin "getset_descriptor.__get__"))
  tk : PySem.W.takesIn K (.builtin "object.__class__") = some true
  mro : PySem.W.mroIn K C (.type "object") = some true
def WdOk (Y : Wd) : Prop := ∀ c C, Y.cm c = some C → CF Y.K C
theorem tyOf_ok (ok : WdOk Y) {ρ : Rh} {H : Hp} {h : VH} {t : T} {v : V} {y : TyC} (r : Rp Y ρ H t v) (hr : HR Y ρ H h) (e : tyOf h t = some y) : y.fit = true ∧ ∃ u, y.v Y u ∧ TyX Y.K H v u := by
  cases r with
  | non => cases e; exact ⟨rfl, _, rfl, .base .non⟩
  | bl b => cases e; exact ⟨rfl, _, rfl, .base (.bl b)⟩
  | int i => cases e; exact ⟨rfl, _, rfl, .base (.int i)⟩
  | str hx => cases e; exact ⟨rfl, _, rfl, .base (.str _)⟩
  | lst la rs => cases e; exact ⟨rfl, _, rfl, .base (.lst la.2.2)⟩
  | arg la rs => cases e
  | tup ta rs =>
    cases e
    refine ⟨rfl, _, rfl, ?_⟩
    rcases ta.2 with ⟨_, h1 | ⟨o, h1⟩⟩ | ⟨o, its, n, h1, h2, _⟩
    · exact .base (.tup h1)
    · exact .fTuple h1
    · exact .kTuple h1 h2
  | obj hc ho hh hn rs =>
    cases e
    have f := ok _ _ hc
    exact ⟨rfl, _, ⟨_, hc, rfl⟩, .base (.ins hh f.cls f.at_ f.sp f.tk f.mro)⟩
  | @ref n a ha =>
    simp only [tyOf] at e
    cases q : h[n]? with
    | none => rw [q] at e; cases e
    | some o =>
      rw [q] at e
      have z := hr.at_ n o a q ha
      cases o with
      | lst ts => cases e; obtain ⟨vs, h1, _⟩ := z; exact ⟨rfl, _, rfl, .base (.lst h1)⟩
      | ins c fs =>
        cases e
        obtain ⟨C, dx, vfs, hc, h1, _⟩ := z
        have f := ok _ _ hc
        exact ⟨rfl, _, ⟨_, hc, rfl⟩, .base (.ins h1 f.cls f.at_ f.sp f.tk f.mro)⟩
      | dct kvs => cases e; obtain ⟨vk, h1, _⟩ := z; exact ⟨rfl, _, rfl, .base (.dK h1)⟩
/-- isinstance by type: bool is an int -/
def isiB : TyC → TyC → Bool
  | .b m, .b n => m == n || (m == "bool" && n == "int")
  | .o c, .o d => c == d
  | _, _ => false
def eIsi (y : TyC) (f : ME) : ME := fun τ h => match f τ h with
  | .ok t h1 => (match tyOf h1 t with
    | some x => .ok (.bl (isiB x y)) h1
    | none => .bad)
  | .bad => .bad
theorem xIsi {y : TyC} {e ce : Expr} {f : ME} {p pos : Pos} {cv : V} {cu : Value} (hK : X.K = Y.K) (ok : WdOk Y) (hy : y.v Y cu) (hcv : ClsV cv cu) (hi : ∀ x u, x.fit = true → x.v Y u → PySem.W.kitOne Y.K u cu = some (isiB x y)) (he : PE X e (TM Y f)) (hc : PE X ce (tC cv))
    (hg : Gl X "isinstance") (hm : X.mg "isinstance" = none) (hs2 : starEach [ce] X.env = (false, eval ce X.env) :: starEach [] X.env := by rfl)
    (hs : starEach [e, ce] X.env = (false, eval e X.env) :: starEach [ce] X.env := by rfl) (hpl : (backTo pos (starEach [ce] X.env)).any (·.1) = false := by rfl) :
    PE X (.Call (.Name "isinstance" p) [e, ce] [] pos) (TM Y (eIsi y f)) := pe_imp (pe_callB call_isi hg hm rfl (pa_cons he (pa_cons hc pa_nil hs2) hs) (by decide) (by decide) hs hpl) fun σ H Q q => by
  obtain ⟨ρ, τ, h, t, h', G, e, to⟩ := q
  unfold eIsi at e
  cases e1 : f τ h with
  | bad => simp only [e1] at e; cases e
  | ok o h1 =>
    simp only [e1] at e
    split at e
    · rename_i yo eo
      cases e
      refine ⟨ρ, τ, h, o, _, G, e1, ⟨fun ρ1 H1 v ev hr r => ?_⟩⟩
      obtain ⟨hf, u, hu, ty⟩ := tyOf_ok ok r hr eo
      refine ⟨v, cv, u, cu, _, rfl, hcv, by rw [hK]; exact ty, by rw [hK]; exact hi _ _ hf hu, to.to ρ1 H1 _ ev hr (.bl _)⟩
    · cases e
end
end TL

set_option Elab.async false
set_option linter.all false
set_option maxRecDepth 100000
set_option maxHeartbeats 4000000
namespace TL
open PySem PySem.Spec L2 PyProof.Rows
/-! ### enumerate over what the library draws from -/
/-- a place that gives g 0, .., g (n - 1), one a turn -/
structure Src (P : Program) (w : World) (it : Addr) (n : Nat) (g : Nat → V) (St : Nat → Heap → Prop) : Prop where
  draws : ∀ A : Around, A.handled = none → Draws P w A it [it] n (fun i v => RelV (g i) v) St
  solid : ∀ i h, St i h → ∃ o, h.get? it = some o ∧ ∀ v, o.data ≠ .cell v
/-- the pairs (0, g 0), (1, g 1), .. each new -/
def ItG (n : Nat) (g : Nat → V) : It where
  go i _ := i < n
  yld i H v H' := ∃ T, v = .ref T ∧ H T = none ∧ H' = upd H T (.tup [.int (i : Nat), g i])
  stop i _ := n ≤ i
/-- where such a walk stands before turn i -/
structure At (e it : Addr) (n : Nat) (St : Nat → Heap → Prop) (i : Nat) (h : Heap) : Prop where
  head : ∃ last, IsEnum h e it (i : Int) last
  tail : St i h
  two : it ≠ e
  most : i ≤ n
section
variable {P : Program} {w : World} {K : PySem.W.Frag} {e it : Addr} {n : Nat} {g : Nat → V} {St : Nat → Heap → Prop}
theorem At.born {i : Nat} {h : Heap} (S : Src P w it n g St) (a : At e it n St i h) {b : Addr} (m : b ∈ [e, it]) : ∃ o, h.get? b = some o ∧ ∀ v, o.data ≠ .cell v := by
  rcases List.mem_cons.mp m with rfl | m
  · exact let ⟨_, q⟩ := a.head; ⟨_, q, nofun⟩
  · rw [List.mem_singleton.mp m]; exact S.solid i h a.tail
/-- the pair as it comes out -/
theorem pair_ok {X : Cx} {H : Hp} {h : Heap} {T : Addr} {i : Nat} {tk : Tok} {x : V} {v : Value} (r : RelV x v) (at_ : h.get? T = some { cls := .type "tuple", data := .seq #[.int (i : Int) tk, v] }) : ObjOk X.prog X.w (upd H T (.tup [.int (i : Nat), x])) h T (.tup [.int (i : Nat), x]) :=
  ⟨(by decide : 2 ≤ sizeLine), _, .cons ⟨tk, rfl⟩ (.cons r .nil), _, at_, rfl, _, rfl⟩
theorem turn_src {es : List Expr} {j : Nat} {tp : Pos} (S : Src P w it n g St) : Turn P w K (.Tuple es j tp) (ItG n g) [e, it] e (At e it n St) := by
  have frame : ∀ i h h', At e it n St i h → (∀ b ∈ [e, it], ∀ o, h.get? b = some o → h'.get? b = some o) → At e it n St i h' := by
    rintro i h h' ⟨⟨l, q⟩, st, ne, le⟩ k
    refine ⟨⟨l, k e List.mem_cons_self _ q⟩, (S.draws ⟨none, 0, none, none, 0⟩ rfl).frame i h h' st fun b m o => k b (List.mem_cons_of_mem _ m) o, ne, le⟩
  refine ⟨List.mem_cons_self, fun i h a b m => a.born S m, frame, ?item, ?done, fun A i s Q E a h => let ⟨_, q⟩ := a.head; wpAny_pyIter_enum q h⟩
  case item =>
    rintro X rfl rfl rfl calm i pins s σ H E I own ⟨⟨l, q⟩, st, ne, le⟩ lt
    refine wpAny_pyNext_enum_itemD (S.draws _ (I.ok.hd calm)) q st lt ne.symm (by simpa using ne.symm) fun v h1 tk rv out st1 pr _ same => ⟨_, rfl, ?_⟩
    refine wpAny_letOwnedTupleGo_enum (s := { s with heap := h1, toks := tk + 1 }) out fun h2 q2 but => ?_
    have old : ∀ b ∈ [e, it], b < s.heap.objs.size := fun b m => let ⟨_, z, _⟩ := At.born (n := n) S ⟨⟨l, q⟩, st, ne, le⟩ m; Heap.lt_size z
    have lone : s.heap.objs.size ≠ e := fun z => Nat.lt_irrefl _ (z ▸ old e List.mem_cons_self)
    have J := I.turnedNew (t' := tk + 1) (ch := [e, it]) (fun b o m z => by
      rw [but.2 b fun y => m (y ▸ List.mem_cons_self)]
      exact same b o (fun y => m (y ▸ List.mem_cons_self)) (fun y => m (y ▸ List.mem_cons_of_mem _ List.mem_cons_self)) z) own (Nat.le_refl _) (pair_ok (H := H) rv ((but.2 _ lone).trans pr))
    refine ⟨.ref s.heap.objs.size, _, J, rfl, ⟨_, rfl, I.hok.fresh (Nat.le_refl _), rfl⟩, ⟨⟨v, q2⟩, ?_, ne, lt⟩, fun b m => (upd_ne (Nat.ne_of_lt (old b m))).trans (own b m).1⟩
    exact (S.draws ⟨none, 0, none, none, 0⟩ rfl).frame _ h1 h2 st1 fun b m o z => by rw [List.mem_singleton.mp m] at z ⊢; exact (but.2 it ne).trans z
  case done =>
    rintro X rfl rfl rfl calm i pins s σ H E I own ⟨⟨l, q⟩, st, ne, le⟩ ge
    obtain rfl : i = n := Nat.le_antisymm le ge
    have o := own it (List.mem_cons_of_mem _ List.mem_cons_self)
    exact wpAny_pyNext_enum_endD (S.draws _ (I.ok.hd calm)) q st fun h1 but => ⟨rfl, I.turned (t' := s.toks) (fun b ob m z => but b ob m z) o.1 o.2.1 o.2.2.2.1 o.2.2.2.2.1 o.2.2.2.2.2⟩
/-- a text's signs -/
theorem src_str (z : Str) (t : Tok) : Src P w it z.cps.size (fun i => .str ⟨#[z.cps.getD i 0]⟩) (fun i h => h.IsStrIter it (strIterType z) z t i) where
  solid := fun i h st => let ⟨o, q, _, d⟩ := st; ⟨o, q, fun v y => by rw [d] at y; cases y⟩
  draws := fun A hn => by
    have D : Draws P w A it [it] z.cps.size (fun i v => ∃ c u, z.cps[i]? = some c ∧ v = .str ⟨#[c]⟩ u) (fun i h => h.IsStrIter it (strIterType z) z t i) := by
      unfold strIterType
      cases z.cps.all (· < 128)
      · exact Draws.strWide hn it z t
      · exact Draws.strAscii hn it z t
    refine ⟨D.live, D.frame, fun i s Q E lt st k => D.item i s Q E lt st fun x h1 tk p => k x h1 tk ?_, D.done⟩
    obtain ⟨c, u, hc, rfl⟩ := p
    have : z.cps.getD i 0 = c := by rw [Array.getD_eq_getD_getElem?, hc]; rfl
    rw [this]
    exact ⟨u, rfl⟩
end
section
variable {X : Cx} {Y : Wd}
abbrev SignsG (z : Str) : It := ItG z.cps.size fun i => .str ⟨#[z.cps.getD i 0]⟩
def iEnumS (ta : TA) : TI := fun σ H R => ta σ H fun vs H1 => ∃ z, vs = [.str z] ∧ R (SignsG z) H1
theorem pi_enumS {e : Expr} {ta : TA} {p pos tpos : Pos} {es : List Expr} {j : Nat} (hg : Gl X "enumerate") (hm : X.mg "enumerate" = none) (ha : PA X [e] ta) (hs : starEach [e] X.env = [(false, eval e X.env)] := by rfl) :
    PI X (.Tuple es j tpos) (.Call (.Name "enumerate" p) [e] [] pos) (iEnumS ta) := by
  constructor
  intro pins s σ H R I h
  have arg := ha.run pos pins s σ H _ I h
  refine Call_ (ld_blt I hg hm boot_enumerate (PyProof.Rows.callWith_type1 (thn arg ?_) hs rfl))
  rintro us s1 ⟨_, H1, I1, r, z, rfl, q⟩
  match us, r with
  | [_], .cons ⟨t, rfl⟩ .nil =>
    refine call_enumerate_str fun h1 he hit _ more => wpAny_pyIter_enum he ⟨_, [s1.heap.objs.size + 1, s1.heap.objs.size], _, _, H1, rfl, I1.kept (t' := s1.toks) more, turn_src (src_str z t), ⟨⟨.none, he⟩, hit, (Nat.succ_ne_self _).symm, Nat.zero_le _⟩, fun b m => ?_, q⟩
    have young : s1.heap.objs.size ≤ b := by
      rcases List.mem_cons.mp m with y | y
      · exact y ▸ Nat.le_succ _
      · exact Nat.le_of_eq (List.mem_singleton.mp y).symm
    exact I1.fpOk young (I1.hok.fresh young)
def iEnumSM (g : MA) : MI := fun τ h => match g τ h with
  | .ok [.str z] h1 => .ok (fun _ => some (enumT (signsT z))) h1
  | _ => .bad
theorem wk_enumS {z : Str} {ρ : Rh} {H : Hp} : Wk Y (SignsG z) (fun _ => some (enumT (signsT z))) ρ H := by
  have len : (enumT (signsT z)).length = z.cps.size := by simp [enumT, signsT]
  constructor
  · rintro ρ1 H1 h ts i u ev hr ⟨⟩ ei
    have lt : i < z.cps.size := by rw [← len]; exact (List.getElem?_eq_some_iff.mp ei).1
    have this : u = .tup [.int (i : Nat), .str ⟨#[z.cps.getD i 0]⟩] := by
      simp [enumT, signsT, lt] at ei
      rw [← ei]
      simp [lt]
    subst this
    refine ⟨lt, fun x H' y => ?_⟩
    obtain ⟨T', rfl, fresh, rfl⟩ := y
    exact pair_new hr (.int _) (.str (by show (#[_] : Array Nat).size ≤ _; simp)) fresh
  · rintro ρ1 H1 h ts i ev hr ⟨⟩ hl
    show z.cps.size ≤ i
    rw [← len]
    exact hl
theorem xiEnumS {e : Expr} {g : MA} {p pos tpos : Pos} {elts : List Expr} {kk : Nat} (hg : Gl X "enumerate") (hm : X.mg "enumerate" = none) (ha : PA X [e] (TMA Y g)) (hs : starEach [e] X.env = [(false, eval e X.env)] := by rfl) :
    PI X (.Tuple elts kk tpos) (.Call (.Name "enumerate" p) [e] [] pos) (TMI Y (iEnumSM g)) := pi_imp (pi_enumS hg hm ha hs) fun σ H R q => by
  obtain ⟨ρ, τ, h, rd, h', G, e, to⟩ := q
  unfold iEnumSM at e
  split at e
  · rename_i z h1 e1
    cases e
    refine ⟨ρ, τ, h, _, _, G, e1, ⟨fun ρ1 H1 vs ev hr r => ?_⟩⟩
    obtain ⟨v, rfl, rv⟩ := rps_one r
    cases rv
    exact ⟨_, rfl, to ρ1 H1 _ ev hr wk_enumS⟩
  · cases e
/-! ### dicts of the module, text keys -/
/-- the dict at d -/
structure KD (Y : Wd) (w : World) (d : Addr) (kvs : List (Str × T)) : Prop where
  kd : ∃ es n, KDict Y.K w d es n ∧ es.toList.map (fun e => match e.key with | .str x _ => some x | _ => none) = kvs.map fun q => some q.1
  val : ∀ k t, kvs.lookup k = some t → ∃ u v, PySem.W.nsIn Y.K d k = some (some u) ∧ RelV v u ∧ ∀ ρ H, Rp Y ρ H t v
  miss : ∀ k, kvs.lookup k = none → PySem.W.nsIn Y.K d k = some none
def eIxK (kvs : List (Str × T)) (f : ME) : ME := fun τ h => match f τ h with
  | .ok (.str z) h1 => (match kvs.lookup z with
    | some t => .ok t h1
    | none => .bad)
  | _ => .bad
theorem xIxK {b : Expr} {x : Str} {f : ME} {pos p : Pos} {d : Addr} {kvs : List (Str × T)} (hK : X.K = Y.K) (D : KD Y X.w d kvs) (hg : Gl X x) (hm : X.mg x = some (.ref d)) (hb : PE X b (TM Y f)) (hs : PlainIx b) (hd : (x == ("__debug__" : Str)) = false := by decide) :
    PE X (.Subscript (.Name x p) b pos) (TM Y (eIxK kvs f)) := pe_imp (pe_ix ix_kdict (pe_glob hg hm (v := .ref d) rfl hd) hb hs) fun σ H Q q => by
  obtain ⟨ρ, τ, h, t, h', G, e, to⟩ := q
  unfold eIxK at e
  split at e
  · rename_i z h1 e1
    split at e
    · rename_i u eu
      cases e
      refine ⟨ρ, τ, h, _, _, G, e1, ⟨fun ρ1 H1 v ev hr r => ?_⟩⟩
      cases r
      obtain ⟨es, n, k, _⟩ := D.kd
      obtain ⟨u', v', e1, e2, e3⟩ := D.val _ _ eu
      rw [hK]
      exact ⟨d, z, v', rfl, rfl, ⟨es, n, u', k.at_, k.lit, e1, e2⟩, to.to ρ1 H1 _ ev hr (e3 _ _)⟩
    · cases e
  · cases e
def eInK (neg : Bool) (kvs : List (Str × T)) (f : ME) : ME := fun τ h => match f τ h with
  | .ok (.str z) h1 => .ok (.bl (neg != (kvs.lookup z).isSome)) h1
  | _ => .bad
theorem KD.some {d : Addr} {w : World} {kvs : List (Str × T)} (D : KD Y w d kvs) (z : Str) : ∃ r, PySem.W.nsIn Y.K d z = some r ∧ r.isSome = (kvs.lookup z).isSome := by
  cases q : kvs.lookup z with
  | none => exact ⟨_, D.miss z q, rfl⟩
  | some t =>
    obtain ⟨u', v', e1, e2, e3⟩ := D.val _ _ q
    exact ⟨_, e1, rfl⟩
theorem tm_inK {neg : Bool} {r : R2} {d : Addr} {kvs : List (Str × T)} {f : ME} {σ : St} {H : Hp} {Q : VK} (q : TM Y (eInK neg kvs f) σ H Q) (hr : ∀ z H Q, Q (.bl (neg != (kvs.lookup z).isSome)) H → r (.str z) (.ref d) H Q) : tOp r (TM Y f) (tC (.ref d)) σ H Q := by
  obtain ⟨ρ, τ, h, t, h', G, e, to⟩ := q
  unfold eInK at e
  split at e
  · rename_i z h1 e1
    cases e
    refine ⟨ρ, τ, h, _, _, G, e1, ⟨fun ρ1 H1 v ev hr1 r => ?_⟩⟩
    cases r
    exact hr _ _ _ (to.to ρ1 H1 _ ev hr1 (.bl _))
  · cases e
theorem xInK {a : Expr} {x : Str} {f : ME} {pos p : Pos} {d : Addr} {kvs : List (Str × T)} (hK : X.K = Y.K) (D : KD Y X.w d kvs) (hg : Gl X x) (hm : X.mg x = some (.ref d)) (ha : PE X a (TM Y f)) (hd : (x == ("__debug__" : Str)) = false := by decide) (hmk : behindInMarks .In (.Name x p) = false := by first | exact nomark _ | rfl) :
    PE X (.Compare a [.In] [.Name x p] pos) (TM Y (eInK false kvs f)) := by
  obtain ⟨es, n, k, _⟩ := D.kd
  refine pe_imp (pe_cmpR (op_in_kd (X := X) (d := d) (es := es) (n := n) (by rw [hK]; exact k)) ha (pe_glob hg hm (v := .ref d) rfl hd) hmk) fun σ H Q q => tm_inK (d := d) q fun z H Q q => ?_
  obtain ⟨r, e1, e2⟩ := D.some z
  exact ⟨z, r, rfl, rfl, by rw [hK]; exact e1, by rw [Bool.false_bne] at q; rw [e2]; exact q⟩
theorem xNinK {a : Expr} {x : Str} {f : ME} {pos p : Pos} {d : Addr} {kvs : List (Str × T)} (hK : X.K = Y.K) (D : KD Y X.w d kvs) (hg : Gl X x) (hm : X.mg x = some (.ref d)) (ha : PE X a (TM Y f)) (hd : (x == ("__debug__" : Str)) = false := by decide) (hmk : behindInMarks .NotIn (.Name x p) = false := by first | exact nomark _ | rfl) :
    PE X (.Compare a [.NotIn] [.Name x p] pos) (TM Y (eInK true kvs f)) := by
  obtain ⟨es, n, k, _⟩ := D.kd
  refine pe_imp (pe_cmpR (op_notIn_kd (X := X) (d := d) (es := es) (n := n) (by rw [hK]; exact k)) ha (pe_glob hg hm (v := .ref d) rfl hd) hmk) fun σ H Q q => tm_inK (d := d) q fun z H Q q => ?_
  obtain ⟨r, e1, e2⟩ := D.some z
  exact ⟨z, r, rfl, rfl, by rw [hK]; exact e1, by rw [Bool.true_bne] at q; rw [e2]; exact q⟩
end
section
variable {X : Cx} {Y : Wd}
theorem tmb_inK {neg : Bool} {r : R2} {d : Addr} {kvs : List (Str × T)} {f : ME} {σ : St} {H : Hp} {Q : Bool → Hp → Prop} (q : TMB Y (bTest (eInK neg kvs f)) σ H Q) (hr : ∀ z H Q, Q (.bl (neg != (kvs.lookup z).isSome)) H → r (.str z) (.ref d) H Q) : tTest (tOp r (TM Y f) (tC (.ref d))) σ H Q := by
  obtain ⟨ρ, τ, h, u, h', G, e, to⟩ := q
  refine tm_inK (d := d) (Q := fun x H' => ∃ k, x = .bl k ∧ Q k H') ?_ hr
  unfold bTest at e
  split at e
  · rename_i b h1 e1
    cases e
    refine ⟨ρ, τ, h, _, _, G, e1, ⟨fun ρ1 H1 v ev hr r => ?_⟩⟩
    cases r
    exact ⟨_, rfl, to.to ρ1 H1 _ ev hr rfl⟩
  · cases e
theorem xtInK {a : Expr} {x : Str} {f : ME} {pos p : Pos} {d : Addr} {kvs : List (Str × T)} (hK : X.K = Y.K) (D : KD Y X.w d kvs) (hg : Gl X x) (hm : X.mg x = some (.ref d)) (ha : PE X a (TM Y f)) (hd : (x == ("__debug__" : Str)) = false := by decide) (hmk : behindInMarks .In (.Name x p) = false := by first | exact nomark _ | rfl) :
    PT X (.Compare a [.In] [.Name x p] pos) (TMB Y (bTest (eInK false kvs f))) := by
  obtain ⟨es, n, k, _⟩ := D.kd
  refine pt_imp (pt_cmpR (op_in_kd (X := X) (d := d) (es := es) (n := n) (by rw [hK]; exact k)) ha (pe_glob hg hm (v := .ref d) rfl hd) hmk) fun σ H Q q => tmb_inK (d := d) q fun z H Q q => ?_
  obtain ⟨r, e1, e2⟩ := D.some z
  exact ⟨z, r, rfl, rfl, by rw [hK]; exact e1, by rw [Bool.false_bne] at q; rw [e2]; exact q⟩
theorem xtNinK {a : Expr} {x : Str} {f : ME} {pos p : Pos} {d : Addr} {kvs : List (Str × T)} (hK : X.K = Y.K) (D : KD Y X.w d kvs) (hg : Gl X x) (hm : X.mg x = some (.ref d)) (ha : PE X a (TM Y f)) (hd : (x == ("__debug__" : Str)) = false := by decide) (hmk : behindInMarks .NotIn (.Name x p) = false := by first | exact nomark _ | rfl) :
    PT X (.Compare a [.NotIn] [.Name x p] pos) (TMB Y (bTest (eInK true kvs f))) := by
  obtain ⟨es, n, k, _⟩ := D.kd
  refine pt_imp (pt_cmpR (op_notIn_kd (X := X) (d := d) (es := es) (n := n) (by rw [hK]; exact k)) ha (pe_glob hg hm (v := .ref d) rfl hd) hmk) fun σ H Q q => tmb_inK (d := d) q fun z H Q q => ?_
  obtain ⟨r, e1, e2⟩ := D.some z
  exact ⟨z, r, rfl, rfl, by rw [hK]; exact e1, by rw [Bool.true_bne] at q; rw [e2]; exact q⟩
end
/-- the keys of a written dict -/
def ItkK (ks : List Str) : It := ⟨fun i _ => i < ks.length, fun i H x H' => H' = H ∧ ∃ k, ks[i]? = some k ∧ x = .str k, fun i _ => ks.length ≤ i⟩
/-- a key of text, or none -/
def keyS (e : DictEntry) : Option Str := match e.key with
  | .str x _ => some x
  | _ => none
theorem keyS_at {e : DictEntry} {x : Str} (h : keyS e = some x) : ∃ tk, e.key = .str x tk := by
  unfold keyS at h
  split at h
  · next y tk q => exact ⟨tk, by rw [q, Option.some.inj h]⟩
  · cases h
theorem turn_keysK {P : Program} {w : World} {K : PySem.W.Frag} {tg : Expr} {d it : Addr} {es : Array DictEntry} {n : Nat} {ks : List Str} (D : KDict K w d es n) (hk : es.toList.map keyS = ks.map some) :
    Turn P w K tg (ItkK ks) [it] it (fun i h => h.IsKeyIter it d i es.size n) := by
  have many : es.size = ks.length := by simpa using congrArg List.length hk
  have raw : ∀ {h : Heap}, K.In h → h.DictRaw d es n := fun kin => ⟨_, kin _ _ D.at_, ⟨rfl, rfl, rfl⟩, rfl⟩
  refine ⟨List.mem_singleton.mpr rfl, ?obj, ?keep, ?item, ?done, fun _ _ _ _ _ st q => wpAny_pyIter_keyiter st q⟩
  case obj =>
    rintro i h ⟨o, q, c, y⟩ b m
    exact ⟨o, List.mem_singleton.mp m ▸ q, fun v z => nomatch y.symm.trans z⟩
  case keep => exact fun i h h' st same => st.at (same it (List.mem_singleton.mpr rfl))
  case item =>
    rintro X rfl rfl rfl calm i pins s σ H E I own st (lt : i < ks.length)
    have o := own it (List.mem_singleton.mpr rfl)
    have lt' : i < es.size := many ▸ lt
    refine wpAny_pyNext_keys_item_raw st (raw I.kIn) lt' fun h1 st1 but => ⟨_, rfl, ?_⟩
    have J := I.turned (t' := s.toks) (fun b ob m z => (but.2 b m).trans z) o.1 o.2.1 o.2.2.2.1 o.2.2.2.2.1 o.2.2.2.2.2
    have named : keyS es[i] = some ks[i] := by
      have q : (es.toList.map keyS)[i]? = (ks.map some)[i]? := by rw [hk]
      simpa [lt, lt'] using q
    obtain ⟨tk, key⟩ := keyS_at named
    obtain ⟨oi, q, c, y⟩ := id st1
    refine go_of (s := { s with heap := h1 }) q c y (by decide) ⟨.str ks[i], H, J, ?_, ⟨rfl, ks[i], List.getElem?_eq_getElem lt, rfl⟩, st1, fun b m => (own b m).1⟩
    rw [key]
    exact ⟨tk, rfl⟩
  case done =>
    rintro X rfl rfl rfl calm i pins s σ H E I own st (ge : ks.length ≤ i)
    have o := own it (List.mem_singleton.mpr rfl)
    exact wpAny_pyNext_keys_end_raw (I.ok.hd calm) st (raw I.kIn) (many ▸ ge) fun h1 but => ⟨rfl, I.turned (t' := s.toks) (fun b ob m z => but b ob m z) o.1 o.2.1 o.2.2.2.1 o.2.2.2.2.1 o.2.2.2.2.2⟩
section
variable {X : Cx} {Y : Wd}
def iKeysK (kvs : List (Str × T)) : MI := fun _ h => .ok (fun _ => some (kvs.map fun q => T.str q.1)) h
theorem xiKeysK {tg : Expr} {x : Str} {p : Pos} {d : Addr} {kvs : List (Str × T)} (hK : X.K = Y.K) (D : KD Y X.w d kvs) (hg : Gl X x) (hm : X.mg x = some (.ref d)) (hz : kvs.all (fun q => decide (q.1.length ≤ 1000000)) = true := by decide) (hd : (x == ("__debug__" : Str)) = false := by decide) : PI X tg (.Name x p) (TMI Y (iKeysK kvs)) := by
  refine ⟨fun pins s σ H R I q => ?_⟩
  refine thn ((pe_glob hg hm (v := .ref d) rfl hd).run pins s σ H (fun v H1 => v = .ref d ∧ H1 = H) I ⟨rfl, rfl⟩) fun u s1 ⟨y, H1, I1, rx, ey, eH⟩ => ?_
  subst ey eH
  obtain rfl : u = Value.ref d := rx
  obtain ⟨es, n, k, hk⟩ := D.kd
  obtain ⟨ρ, τ, h, rd, h', G, e, to⟩ := q
  cases e
  have k' : KDict X.K X.w d es n := by rw [hK]; exact k
  have hd1 := I1.kIn _ _ k'.at_
  have hne : d ≠ s1.heap.objs.size := Nat.ne_of_lt (Heap.lt_size hd1)
  refine iter_keys k.low hd1 ⟨rfl, rfl, rfl⟩ rfl (pi_one (tk := s1.toks) I1 _ (turn_keysK (ks := kvs.map (·.1)) k' (Eq.trans (show es.toList.map keyS = _ from hk) (by rw [List.map_map]; rfl))) ⟨_, Heap.get?_push_size _ rfl, rfl, rfl⟩ (to ρ H1 _ .refl G.hr ?_))
  refine ⟨fun ρ1 H1 h ts i u ev hr e ei => ?_, fun ρ1 H1 h ts i ev hr e hl => ?_⟩
  · cases e
    rw [List.getElem?_map] at ei
    cases q : kvs[i]? with
    | none => rw [q] at ei; cases ei
    | some c =>
      rw [q] at ei
      cases ei
      refine ⟨by show i < (kvs.map (·.1)).length; rw [List.length_map]; exact (List.getElem?_eq_some_iff.mp q).1, fun x H' y => ?_⟩
      obtain ⟨rfl, k, ek, rfl⟩ := y
      rw [List.getElem?_map, q] at ek
      cases ek
      exact ⟨.refl, hr, .str (of_decide_eq_true (List.all_eq_true.mp hz c (List.mem_of_getElem? q)))⟩
  · cases e
    show (kvs.map (·.1)).length ≤ i
    simpa using hl
end
end TL

set_option Elab.async false
set_option linter.all false
set_option maxRecDepth 100000
set_option maxHeartbeats 4000000
namespace TL
open PySem PySem.Spec L2
section
variable {X : Cx} {Y : Wd}
theorem ot_eq : OT Y (rEqP Y.K fun d e => PyData.eqv d e) bEq := ot_eqG _
theorem ot_ne : OT Y (rEqP Y.K fun d e => !PyData.eqv d e) bNe := ot_eqG _
theorem ot_lt : OT Y (rO Y.K (fun d e => PySem.W.dataLt d e) fun i j => decide (i < j)) bLt := ot_ord _ _
theorem ot_le : OT Y (rO Y.K (fun d e => !PySem.W.dataLt e d) fun i j => decide (i ≤ j)) bLe := ot_ord _ _
theorem ot_gt : OT Y (rO Y.K (fun d e => PySem.W.dataLt e d) fun i j => decide (j < i)) bGt := ot_ord _ _
theorem ot_ge : OT Y (rO Y.K (fun d e => !PySem.W.dataLt d e) fun i j => decide (j ≤ i)) bGe := ot_ord _ _
theorem ot_inT : OT Y (rInA Y.K false) bIn := ot_in _
theorem ot_ninT : OT Y (rInA Y.K true) bNin := ot_in _
theorem xGInt {x : Str} {i : Int} {pos : Pos} (hg : Gl X x) (h : ∃ t, X.mg x = some (.int i t)) (hd : (x == ("__debug__" : Str)) = false := by decide) : PE X (.Name x pos) (TM Y (eK (.int i))) := by
  obtain ⟨t, h⟩ := h
  exact xGlob hg h (v := .int i) ⟨t, rfl⟩ (fun _ _ => .int i) hd
theorem xGStr {x z : Str} {pos : Pos} (hg : Gl X x) (h : ∃ t, X.mg x = some (.str z t)) (hz : z.length ≤ 1000000 := by decide) (hd : (x == ("__debug__" : Str)) = false := by decide) : PE X (.Name x pos) (TM Y (eK (.str z))) := by
  obtain ⟨t, h⟩ := h
  exact xGlob hg h (v := .str z) ⟨t, rfl⟩ (fun _ _ => .str hz) hd
/-- xs * k, a new list that may change -/
def mMul (f g : ME) : MA := fun τ h => match f τ h with
  | .ok a h1 => (match g τ h1 with
    | .ok (.int k) h2 => (match listOf h2 a with
      | some x => if x.length * k.toNat ≤ 16777216 ∧ -1000000000 ≤ k ∧ k ≤ 1000000000 then .ok (List.replicate k.toNat x).flatten h2 else .bad
      | _ => .bad)
    | _ => .bad)
  | .bad => .bad
theorem xMulF {a c : Expr} {f g : ME} {pos : Pos} (ha : PE X a (TM Y f)) (hb : PE X c (TM Y g)) : PE X (.BinOp a .Mult c pos) (TMF Y (mMul f g)) := pe_imp (pe_op op_rep ha hb) fun σ H Q q => by
  obtain ⟨ρ, τ, h, us, h', G, e, to⟩ := q
  unfold mMul at e
  cases e1 : f τ h with
  | bad => simp only [e1] at e; cases e
  | ok o h1 =>
    simp only [e1] at e
    refine ⟨ρ, τ, h, o, h1, G, e1, ⟨fun ρ1 H1 vo ev hr1 ro => ?_⟩⟩
    split at e
    · rename_i k h2 e2
      refine ⟨ρ1, τ, h1, _, h2, G.ev ev hr1, e2, ⟨fun ρ2 H2 vk ev2 hr2 rk => ?_⟩⟩
      cases rk
      split at e
      · rename_i x ex
        split at e
        · rename_i hz
          cases e
          obtain ⟨p, va, rfl, hp, hza, ra⟩ := listOf_ok' (ro.ev ev2.toEvR) hr2 ex
          have hl := hz.1
          rw [← ra.length, ← sizeLine_eq] at hl
          have ev12 := ev.trans ev2
          exact ⟨p, k, va, rfl, rfl, hp, by omega, by omega, hl, lay hr2 (ra.rep _) (by rw [rep_len, Nat.mul_comm]; exact hl) fun ρ' H' D ws ev' hr' hD => to ρ' H' D ws (ev12.trans ev') hr' (ev12.fresh hD)⟩
        · cases e
      · cases e
    · cases e
/-- xs + ys, a new list that may change -/
def mCat (f g : ME) : MA := fun τ h => match f τ h with
  | .ok a h1 => (match g τ h1 with
    | .ok b h2 => (match listOf h2 a, listOf h2 b with
      | some x, some y => if x.length + y.length ≤ 16777216 then .ok (x ++ y) h2 else .bad
      | _, _ => .bad)
    | _ => .bad)
  | .bad => .bad
theorem xCatF {a c : Expr} {f g : ME} {pos : Pos} (ha : PE X a (TM Y f)) (hb : PE X c (TM Y g)) : PE X (.BinOp a .Add c pos) (TMF Y (mCat f g)) := pe_imp (pe_op op_cat ha hb) fun σ H Q q => by
  obtain ⟨ρ, τ, h, us, h', G, e, to⟩ := q
  unfold mCat at e
  cases e1 : f τ h with
  | bad => simp only [e1] at e; cases e
  | ok o h1 =>
    simp only [e1] at e
    refine ⟨ρ, τ, h, o, h1, G, e1, ⟨fun ρ1 H1 vo ev hr1 ro => ?_⟩⟩
    cases e2 : g τ h1 with
    | bad => simp only [e2] at e; cases e
    | ok u h2 =>
      simp only [e2] at e
      refine ⟨ρ1, τ, h1, _, h2, G.ev ev hr1, e2, ⟨fun ρ2 H2 vk ev2 hr2 rk => ?_⟩⟩
      split at e
      · rename_i x y ex ey
        split at e
        · rename_i hz
          cases e
          obtain ⟨p, va, rfl, hp, hza, ra⟩ := listOf_ok' (ro.ev ev2.toEvR) hr2 ex
          obtain ⟨p2, vb, rfl, hp2, hzb, rb⟩ := listOf_ok' rk hr2 ey
          have ev12 := ev.trans ev2
          have hl : va.length + vb.length ≤ sizeLine := by rw [ra.length, rb.length, sizeLine_eq]; exact hz
          exact ⟨p, p2, va, vb, rfl, rfl, hp, hp2, hl, lay hr2 (ra.append rb) (by rw [List.length_append]; exact hl) fun ρ' H' D ws ev' hr' hD => to ρ' H' D ws (ev12.trans ev') hr' (ev12.fresh hD)⟩
        · cases e
      · cases e
/-- list(range(..)) : a new list -/
def mRange1 (g : ME) : MA := fun τ h => match g τ h with
  | .ok (.int j) h1 => if -1000000 ≤ j ∧ j ≤ 1000000 then .ok (rangeT 0 j.toNat) h1 else .bad
  | _ => .bad
end
/-- a block's scope, by one Bool -/
def blkB (N : List Str) (sc scope : Scope) (own : List (Str × Nat)) : Bool := own.all (fun p => decide (N[p.2]? = some p.1)) && scope.names.all fun y => decide (scope.names.lookup y.1 = some y.2) && match y.2 with
  | .free => decide (sc.names.lookup y.1 = some .cell) || decide (sc.names.lookup y.1 = some .free)
  | .local => own.any (fun p => decide (p.1 = y.1)) || !N.any fun x => decide (x = y.1)
  | .cell => own.any (fun p => decide (p.1 = y.1)) || !N.any fun x => decide (x = y.1)
  | _ => true
theorem own_of {N : List Str} {own : List (Str × Nat)} {x : Str} (h : (own.any (fun p => decide (p.1 = x)) || !N.any fun y => decide (y = x)) = true) : x ∈ own.map (·.1) ∨ ¬ x ∈ N := by
  rw [Bool.or_eq_true] at h
  rcases h with h | h
  · obtain ⟨p, hp, e⟩ := List.any_eq_true.mp h
    exact .inl (List.mem_map.mpr ⟨p, hp, of_decide_eq_true e⟩)
  · refine .inr fun z => ?_
    have : (N.any fun y => decide (y = x)) = true := List.any_eq_true.mpr ⟨x, z, decide_eq_true rfl⟩
    rw [this] at h
    cases h
theorem blk_of {N : List Str} {sc scope : Scope} {own : List (Str × Nat)} (hk : scope.kind = .function) (h : blkB N sc scope own = true) : BlkOk N sc scope own := by
  unfold blkB at h
  rw [Bool.and_eq_true] at h
  refine ⟨hk, fun y hy => ?_, fun p hp => of_decide_eq_true (List.all_eq_true.mp h.1 p hp), fun y hy e => ?_, fun y hy e => ?_⟩
  · have q := List.all_eq_true.mp h.2 y hy
    rw [Bool.and_eq_true] at q
    exact of_decide_eq_true q.1
  · have q := List.all_eq_true.mp h.2 y hy
    rw [Bool.and_eq_true, e] at q
    have q2 := q.2
    simp only [Bool.or_eq_true] at q2
    exact q2.elim (fun z => .inl (of_decide_eq_true z)) fun z => .inr (of_decide_eq_true z)
  · have q := List.all_eq_true.mp h.2 y hy
    rw [Bool.and_eq_true] at q
    rcases e with e | e <;> rw [e] at q <;> exact own_of q.2
theorem bt_int : bootBuiltins "int" = some (.type "int") := by decide +kernel
theorem bt_str : bootBuiltins "str" = some (.type "str") := by decide +kernel
theorem bt_bool : bootBuiltins "bool" = some (.type "bool") := by decide +kernel
theorem bt_list : bootBuiltins "list" = some (.type "list") := by decide +kernel
theorem bt_tuple : bootBuiltins "tuple" = some (.type "tuple") := by decide +kernel
theorem bt_range : bootBuiltins "range" = some (.type "range") := by decide +kernel
theorem bt_set : bootBuiltins "set" = some (.type "set") := by decide +kernel
theorem bt_zip : bootBuiltins "zip" = some (.type "zip") := by decide +kernel
theorem bt_enumerate : bootBuiltins "enumerate" = some (.type "enumerate") := by decide +kernel
theorem bt_dict : bootBuiltins "dict" = some (.type "dict") := by decide +kernel
theorem bt_len : bootBuiltins "len" = some (.builtin "len") := by decide +kernel
theorem bt_max : bootBuiltins "max" = some (.builtin "max") := by decide +kernel
theorem bt_min : bootBuiltins "min" = some (.builtin "min") := by decide +kernel
theorem bt_sum : bootBuiltins "sum" = some (.builtin "sum") := by decide +kernel
theorem bt_all : bootBuiltins "all" = some (.builtin "all") := by decide +kernel
theorem bt_any : bootBuiltins "any" = some (.builtin "any") := by decide +kernel
theorem bt_abs : bootBuiltins "abs" = some (.builtin "abs") := by decide +kernel
theorem bt_divmod : bootBuiltins "divmod" = some (.builtin "divmod") := by decide +kernel
theorem bt_sorted : bootBuiltins "sorted" = some (.builtin "sorted") := by decide +kernel
theorem bt_repr : bootBuiltins "repr" = some (.builtin "repr") := by decide +kernel
theorem bt_isinstance : bootBuiltins "isinstance" = some (.builtin "isinstance") := by decide +kernel
/-- what a module's def has -/
def fdOf (K : PySem.W.Frag) (f : Addr) : FuncData := match K.lookup f with
  | some ⟨_, _, .func fd, _⟩ => fd
  | _ => PySem.W.fnOf "" "" ⟨[], [], none, [], [], none, []⟩ [] ⟨.function, [], false, false, []⟩ .none .none .none .none none .none .none
theorem funD_at {K : PySem.W.Frag} {x qual : Str} {params : Arguments} {body : List Stmt} {scope : Scope} {dvs : List V} {kws : List (Str × V)} {f : Addr} {fd : FuncData} (F : FunD K x qual params body scope dvs kws f fd) : FunD K x qual params body scope dvs kws f (fdOf K f) := by
  obtain ⟨oc, od, dV, kV, doc, pm, an, cdv, ct, osl, e, lk, r⟩ := F.ex
  have : fdOf K f = fd := by
    unfold fdOf
    rw [lk, e]
  rw [this]
  exact F
theorem room80 {k : Nat} {A : Around} (h : Room k A) : A.units + 80 < cLine := by
  have := h.un
  omega
/-- the Bool of a written dict's values -/
def relT (K : PySem.W.Frag) : Nat → T → Value → Bool
  | _, .non, .none => true
  | _, .bl b, .bool c => b == c
  | _, .int i, .int j _ => decide (i = j)
  | _, .str x, .str y _ => decide (x = y) && decide (x.length ≤ 1000000)
  | k + 1, .tup ts, .ref a => (match K.lookup a with
    | some ⟨.type c, _, .seq its _, _⟩ => decide (c = "tuple") && (decide (its.size ≤ 16777216) && (decide (its.toList.length = ts.length) && (List.zip ts its.toList).all fun q => relT K k q.1 q.2))
    | _ => false)
  | _, _, _ => false
theorem relTs_ok {Y : Wd} {f : T → Value → Bool} (hf : ∀ t u, f t u = true → ∃ v, RelV v u ∧ ∀ ρ H, Rp Y ρ H t v) : ∀ {ts : List T} {us : List Value}, us.length = ts.length → ((List.zip ts us).all fun q => f q.1 q.2) = true → ∃ vs, Vals vs us ∧ ∀ ρ H, Rps Y ρ H ts vs
  | [], [], _, _ => ⟨[], .nil, fun _ _ => .nil⟩
  | [], _ :: _, h, _ => by cases h
  | _ :: _, [], h, _ => by cases h
  | t :: ts, u :: us, h, e => by
    simp only [List.zip_cons_cons, List.all_cons, Bool.and_eq_true] at e
    obtain ⟨v, r1, r2⟩ := hf t u e.1
    obtain ⟨vs, q1, q2⟩ := relTs_ok hf (by simpa using h) e.2
    exact ⟨v :: vs, .cons r1 q1, fun ρ H => .cons (r2 ρ H) (q2 ρ H)⟩
theorem relT_ok {Y : Wd} : ∀ (k : Nat) (t : T) (u : Value), relT Y.K k t u = true → ∃ v, RelV v u ∧ ∀ ρ H, Rp Y ρ H t v := by
  intro k
  induction k with
  | zero =>
    intro t u h
    cases t <;> cases u <;> first | (cases h; done) | skip
    · exact ⟨.non, rfl, fun _ _ => .non⟩
    · have e := eq_of_beq h; subst e; exact ⟨.bl _, rfl, fun _ _ => .bl _⟩
    · have e := of_decide_eq_true h; subst e; exact ⟨.int _, ⟨_, rfl⟩, fun _ _ => .int _⟩
    · simp only [relT, Bool.and_eq_true] at h
      have e := of_decide_eq_true h.1; subst e
      exact ⟨.str _, ⟨_, rfl⟩, fun _ _ => .str (of_decide_eq_true h.2)⟩
  | succ k ih =>
    intro t u h
    cases t <;> cases u <;> first | (cases h; done) | skip
    · exact ⟨.non, rfl, fun _ _ => .non⟩
    · have e := eq_of_beq h; subst e; exact ⟨.bl _, rfl, fun _ _ => .bl _⟩
    · have e := of_decide_eq_true h; subst e; exact ⟨.int _, ⟨_, rfl⟩, fun _ _ => .int _⟩
    · simp only [relT, Bool.and_eq_true] at h
      have e := of_decide_eq_true h.1; subst e
      exact ⟨.str _, ⟨_, rfl⟩, fun _ _ => .str (of_decide_eq_true h.2)⟩
    · rename_i ts a
      simp only [relT] at h
      split at h
      · rename_i c od its n sl lk
        simp only [Bool.and_eq_true] at h
        obtain ⟨h1, h2, h3, h4⟩ := h
        have e := of_decide_eq_true h1
        subst e
        obtain ⟨vs, q1, q2⟩ := relTs_ok ih (of_decide_eq_true h3) h4
        have hz : its.size ≤ sizeLine := by rw [sizeLine_eq]; exact of_decide_eq_true h2
        have hl : vs.length = its.toList.length := q1.length
        refine ⟨.ref a, rfl, fun ρ H => .tup ⟨by rw [hl, Array.length_toList]; exact hz, .inr ⟨_, its, n, lk, rfl, rfl, hz, q1⟩⟩ (q2 ρ H)⟩
      · cases h
/-- the Bool of a written dict -/
def kdB (K : PySem.W.Frag) (x : Str) (kvs : List (Str × T)) : Bool := match K.lookup (He.ga K x) with
  | some ⟨_, _, .dict es _, _⟩ => decide (es.toList.map (fun e => match e.key with | .str x _ => some x | _ => none) = kvs.map fun q => some q.1) && (!es.toList.any (·.refKey) && kvs.all fun q => match PySem.W.nsIn K (He.ga K x) q.1 with
      | some (some u) => relT K 3 q.2 u
      | _ => false)
  | _ => false
theorem lookup_mem' {kvs : List (Str × T)} {k : Str} {t : T} (h : kvs.lookup k = some t) : (k, t) ∈ kvs := by
  induction kvs with
  | nil => cases h
  | cons q r ih =>
    obtain ⟨a, b⟩ := q
    simp only [List.lookup] at h
    split at h
    · rename_i e
      cases h
      rw [eq_of_beq e]
      exact List.mem_cons_self
    · exact List.mem_cons_of_mem _ (ih h)
theorem kd_of {Y : Wd} {w : World} {x : Str} {kvs : List (Str × T)} (hd : ∃ es n, KDict Y.K w (He.ga Y.K x) es n) (hb : kdB Y.K x kvs = true) : KD Y w (He.ga Y.K x) kvs := by
  obtain ⟨es, n, D⟩ := hd
  unfold kdB at hb
  rw [D.at_] at hb
  simp only [Bool.and_eq_true] at hb
  obtain ⟨h1, h2, h3⟩ := hb
  have hk := of_decide_eq_true h1
  refine ⟨⟨es, n, D, hk⟩, fun k t e => ?_, fun k e => ?_⟩
  · have h4 := List.all_eq_true.mp h3 _ (lookup_mem' e)
    simp only at h4
    split at h4
    · rename_i u eu
      obtain ⟨v, r1, r2⟩ := relT_ok 3 t u h4
      exact ⟨u, v, eu, r1, r2⟩
    · cases h4
  · unfold PySem.W.nsIn
    rw [D.at_]
    simp only
    have hn : es.toList.find? (·.key.isStr k) = none := by
      rw [List.find?_eq_none]
      intro en hen hz
      have hm : (match en.key with | .str x _ => some x | _ => none) ∈ kvs.map fun q => some q.1 := by
        rw [← hk]
        exact List.mem_map.mpr ⟨en, hen, rfl⟩
      cases q : en.key with
      | str y tk =>
        rw [q] at hm hz
        have hy : y = k := by simpa [Value.isStr] using hz
        subst hy
        simp only [List.mem_map, Option.some.injEq] at hm
        obtain ⟨p, hp, ep⟩ := hm
        rw [List.lookup_eq_none_iff] at e
        have := e p hp
        rw [ep] at this
        simp at this
      | _ => rw [q] at hz; simp [Value.isStr] at hz
    rw [hn]
    have h2' : (es.toList.any (·.refKey)) = false := by
      cases q : es.toList.any (·.refKey) with
      | false => rfl
      | true => rw [q] at h2; cases h2
    simp only [h2']
    rfl
end TL

set_option Elab.async false
set_option linter.all false
set_option maxRecDepth 100000
set_option maxHeartbeats 4000000
namespace TL
open PySem PySem.Spec L2
/-- the classes: number, name, attributes -/
abbrev ClT := List (Nat × Str × List Str)
def wdOf (cl : ClT) (K : PySem.W.Frag) : Wd := ⟨K, fun c => (cl.lookup c).map fun q => He.ga K q.1, fun c => match cl.lookup c with | some q => q.2 | none => []⟩
theorem lookup_mem2 {α β : Type} [BEq α] [LawfulBEq α] {l : List (α × β)} {k : α} {t : β} (h : l.lookup k = some t) : (k, t) ∈ l := by
  induction l with
  | nil => cases h
  | cons q r ih =>
    obtain ⟨a, b⟩ := q
    simp only [List.lookup] at h
    split at h
    · rename_i e
      cases h
      rw [eq_of_beq e]
      exact List.mem_cons_self
    · exact List.mem_cons_of_mem _ (ih h)
/-- isinstance's answers -/
def isiChk (cl : ClT) (K : PySem.W.Frag) (w : Value) (y : TyC) : Bool := (tyNames.all fun n => decide (PySem.W.kitOne K (.type n) w = some (isiB (.b n) y))) && cl.all fun q => decide (PySem.W.kitOne K (.ref (He.ga K q.2.1)) w = some (isiB (.o q.1) y))
theorem isi_of {cl : ClT} {K : PySem.W.Frag} {w : Value} {y : TyC} (h : isiChk cl K w y = true) : ∀ x u, x.fit = true → x.v (wdOf cl K) u → PySem.W.kitOne K u w = some (isiB x y) := by
  unfold isiChk at h
  rw [Bool.and_eq_true] at h
  intro x u hf hv
  cases x with
  | b n =>
    cases hv
    have hm : n ∈ tyNames := by simpa [TyC.fit] using hf
    exact of_decide_eq_true (List.all_eq_true.mp h.1 n hm)
  | o c =>
    obtain ⟨C, hC, rfl⟩ := hv
    have hC : (cl.lookup c).map (fun q => He.ga K q.1) = some C := hC
    rw [Option.map_eq_some_iff] at hC
    obtain ⟨q, hq, rfl⟩ := hC
    exact of_decide_eq_true (List.all_eq_true.mp h.2 _ (lookup_mem2 hq))
def cfB (K : PySem.W.Frag) (C : Addr) : Bool := He.eqO (PySem.W.findIn K (.ref C) "__class__") (some (some (.builtin "object.__class__"))) && (He.eqO (PySem.W.specialIn K (.builtin "object.__class__") "__get__") (some (some (.builtin "getset_descriptor.__get__"))) &&
  (decide (PySem.W.takesIn K (.builtin "object.__class__") = some true) && decide (PySem.W.mroIn K C (.type "object") = some true)))
theorem cf_of {K : PySem.W.Frag} {x : Str} (c : (He.Fa.cls x).ok K = true) (h : cfB K (He.ga K x) = true) : CF K (He.ga K x) := by
  unfold cfB at h
  simp only [Bool.and_eq_true] at h
  exact ⟨He.cls_ok c, He.eqO_ok h.1, He.eqO_ok h.2.1, of_decide_eq_true h.2.2.1, of_decide_eq_true h.2.2.2⟩
theorem wd_ok {cl : ClT} {K : PySem.W.Frag} (h : ∀ q ∈ cl, CF K (He.ga K q.2.1)) : WdOk (wdOf cl K) := fun c C e => by
  have e : (cl.lookup c).map (fun q => He.ga K q.1) = some C := e
  rw [Option.map_eq_some_iff] at e
  obtain ⟨q, hq, rfl⟩ := e
  exact h _ (lookup_mem2 hq)
/-- the heap behind the law's start: the script alone -/
theorem start_hr {Y : Wd} {H : Hp} : HR Y ⟨[], []⟩ H [] := by
  constructor
  · rfl
  · exact List.Pairwise.nil
  · intro a ha; cases ha
  · intro n o a h1 h2; simp at h1
theorem ints_rps {Y : Wd} {ρ : Rh} {H : Hp} : ∀ ns : List Int, Rps Y ρ H (ns.map T.int) (ns.map V.int)
  | [] => .nil
  | x :: xs => .cons (.int x) (ints_rps xs)
theorem start_rp {Y : Wd} {H : Hp} {a : Addr} {ns : List Int} (hS : SqL Y.K H a (ns.map V.int)) (hz : ns.length ≤ sizeLine) : Rp Y ⟨[], []⟩ H (.arg (ns.map T.int)) (.ref a) := by
  refine .arg (vs := ns.map V.int) ⟨by rw [List.length_map]; exact hz, ?_⟩ (ints_rps ns)
  rcases hS with h | ⟨o, its, n, h1, h2, h3, h4, h5, h6⟩
  · exact .inl ⟨⟨by simp, by simp⟩, h⟩
  · exact .inr ⟨o, its, n, h1, h2, h3, h4, h5, h6⟩
/-- the law's promise, from what its mirror gives -/
theorem law_sp {Y : Wd} {H : Hp} {a : Addr} {ns : List Int} {m : List T → VH → Res T} {h' : VH} (hS : SqL Y.K H a (ns.map V.int)) (hz : ns.length ≤ sizeLine) (e : m [.arg (ns.map T.int)] [] = .ok (.bl true) h') :
    spM Y m [.ref a] H (fun v _ => v = .bl true) fun _ _ _ => False := ⟨⟨[], []⟩, _, [], _, h', .cons (start_rp hS hz) .nil, start_hr, e, ⟨fun ρ' H' v ev hr r => by cases r; rfl⟩⟩
end TL

set_option Elab.async false
set_option linter.all false
set_option maxRecDepth 100000
set_option maxHeartbeats 4000000
namespace TL
open PySem L2
/-! ### plain rules: loops and comprehensions over what does not change -/
theorem lcL_pure {rd : VH → Option (List T)} {g : MG} {c : MB} {e : ME} {τ : TS_} {h : VH} {ts : List T} (hrd : rd h = some ts) (p : T → Bool) (f : T → T) (hb : ∀ t ∈ ts, ∃ τ1, g t τ h = .ok τ1 h ∧ c τ1 h = .ok (p t) h ∧ (p t = true → e τ1 h = .ok (f t) h)) :
    ∀ (k i : Nat) (acc : List T), i + k = ts.length → lcL rd g c e τ ts.length k i acc h = .ok (acc ++ ((ts.drop i).filter p).map f) h := by
  intro k
  induction k with
  | zero =>
    intro i acc hi
    have : ts.drop i = [] := List.drop_eq_nil_of_le (by omega)
    rw [this]
    simp [lcL, hrd]
  | succ k ih =>
    intro i acc hi
    have hlt : i < ts.length := by omega
    have e1 : ts[i]? = some ts[i] := List.getElem?_eq_getElem hlt
    obtain ⟨τ1, h1, h2, h3⟩ := hb ts[i] (List.getElem_mem hlt)
    have hd : ts.drop i = ts[i] :: ts.drop (i + 1) := List.drop_eq_getElem_cons hlt
    cases hp : p ts[i] with
    | true =>
      have h3 := h3 hp
      rw [hp] at h2
      have z := ih (i + 1) (acc ++ [f ts[i]]) (by omega)
      simp only [lcL, hrd, e1, h1, h2, h3, if_true]
      rw [z, hd, List.filter_cons, if_pos hp, List.map_cons, List.append_assoc, List.singleton_append]
    | false =>
      rw [hp] at h2
      have z := ih (i + 1) acc (by omega)
      simp only [lcL, hrd, e1, h1, h2, if_true]
      rw [z, hd, List.filter_cons, if_neg (by rw [hp]; exact Bool.false_ne_true)]
theorem mLc_pure {mi : MI} {ws : List Nat} {g : MG} {c : MB} {e : ME} {τ : TS_} {h : VH} {rd : VH → Option (List T)} {ts : List T} (hm : mi τ h = .ok rd h) (hrd : rd h = some ts) (hl : ts.length ≤ 16777216) (p : T → Bool) (f : T → T)
    (hb : ∀ t ∈ ts, ∃ τ1, g t (wipeT τ ws) h = .ok τ1 h ∧ c τ1 h = .ok (p t) h ∧ (p t = true → e τ1 h = .ok (f t) h)) : mLc mi ws g c e τ h = .ok ((ts.filter p).map f) h := by
  have z := lcL_pure (τ := wipeT τ ws) hrd p f hb ts.length 0 [] (by omega)
  simp [mLc, hm, hrd, hl, z]
/-- without a test -/
theorem mLc_map {mi : MI} {ws : List Nat} {g : MG} {e : ME} {τ : TS_} {h : VH} {rd : VH → Option (List T)} {ts : List T} (hm : mi τ h = .ok rd h) (hrd : rd h = some ts) (hl : ts.length ≤ 16777216) (f : T → T)
    (hb : ∀ t ∈ ts, ∃ τ1, g t (wipeT τ ws) h = .ok τ1 h ∧ e τ1 h = .ok (f t) h) : mLc mi ws g bYes e τ h = .ok (ts.map f) h := by
  have z := mLc_pure (c := bYes) hm hrd hl (fun _ => true) f fun t ht => let ⟨τ1, a, b⟩ := hb t ht; ⟨τ1, a, rfl, fun _ => b⟩
  rw [z, List.filter_eq_self.mpr fun _ _ => rfl]
/-- a loop that goes on to its end, by an invariant -/
theorem forL_inv {rd : VH → Option (List T)} {g : MG} {body : MS} {ts : List T} (I : Nat → TS_ → VH → Prop) (hrd : ∀ i τ h, I i τ h → rd h = some ts)
    (step : ∀ i (hi : i < ts.length) τ h, I i τ h → ∃ τ1 h1 τ2 h2, g ts[i] τ h = .ok τ1 h1 ∧ (body τ1 h1 = .nx τ2 h2 ∨ body τ1 h1 = .ct τ2 h2) ∧ I (i + 1) τ2 h2) :
    ∀ (k i : Nat) τ h, i + k = ts.length → I i τ h → ∃ τ' h', forL rd g body ts.length k i τ h = .nx τ' h' ∧ I ts.length τ' h' := by
  intro k
  induction k with
  | zero =>
    intro i τ h hi hI
    have e : i = ts.length := by omega
    subst e
    exact ⟨τ, h, by simp [forL, hrd _ _ _ hI], hI⟩
  | succ k ih =>
    intro i τ h hi hI
    have hlt : i < ts.length := by omega
    have e1 : ts[i]? = some ts[i] := List.getElem?_eq_getElem hlt
    obtain ⟨τ1, h1, τ2, h2, a, b, c⟩ := step i hlt τ h hI
    obtain ⟨τ', h', q1, q2⟩ := ih (i + 1) τ2 h2 (by omega) c
    refine ⟨τ', h', ?_, q2⟩
    rcases b with b | b <;> simp [forL, hrd _ _ _ hI, e1, a, b, q1]
theorem sFor_inv {mi : MI} {g : MG} {body : MS} {τ : TS_} {h h1 : VH} {rd : VH → Option (List T)} {ts : List T} (I : Nat → TS_ → VH → Prop) (hm : mi τ h = .ok rd h1) (h0 : I 0 τ h1) (hrd : ∀ i τ h, I i τ h → rd h = some ts)
    (step : ∀ i (hi : i < ts.length) τ h, I i τ h → ∃ τ1 h1 τ2 h2, g ts[i] τ h = .ok τ1 h1 ∧ (body τ1 h1 = .nx τ2 h2 ∨ body τ1 h1 = .ct τ2 h2) ∧ I (i + 1) τ2 h2) :
    ∃ τ' h', sFor mi g body τ h = .nx τ' h' ∧ I ts.length τ' h' := by
  obtain ⟨τ', h', q1, q2⟩ := forL_inv I hrd step ts.length 0 τ h1 (by omega) h0
  exact ⟨τ', h', by simp [sFor, hm, hrd _ _ _ h0, q1], q2⟩
/-- a loop whose i-th turn hands back -/
theorem forL_ret {rd : VH → Option (List T)} {g : MG} {body : MS} {ts : List T} (I : Nat → TS_ → VH → Prop) (hrd : ∀ i τ h, I i τ h → rd h = some ts) {j : Nat} (hj : j < ts.length) {t : T}
    (step : ∀ i (hi : i < ts.length), i < j → ∀ τ h, I i τ h → ∃ τ1 h1 τ2 h2, g ts[i] τ h = .ok τ1 h1 ∧ (body τ1 h1 = .nx τ2 h2 ∨ body τ1 h1 = .ct τ2 h2) ∧ I (i + 1) τ2 h2)
    (last : ∀ τ h, I j τ h → ∃ τ1 h1 h2, g ts[j] τ h = .ok τ1 h1 ∧ body τ1 h1 = .rt t h2) :
    ∀ (k i : Nat) τ h, i + k = ts.length → i ≤ j → I i τ h → ∃ h', forL rd g body ts.length k i τ h = .rt t h' := by
  intro k
  induction k with
  | zero => intro i τ h hi hij hI; omega
  | succ k ih =>
    intro i τ h hi hij hI
    have hlt : i < ts.length := by omega
    have e1 : ts[i]? = some ts[i] := List.getElem?_eq_getElem hlt
    by_cases q : i = j
    · subst q
      obtain ⟨τ1, h1, h2, a, b⟩ := last τ h hI
      exact ⟨h2, by simp [forL, hrd _ _ _ hI, e1, a, b]⟩
    · obtain ⟨τ1, h1, τ2, h2, a, b, c⟩ := step i hlt (by omega) τ h hI
      obtain ⟨h', q1⟩ := ih (i + 1) τ2 h2 (by omega) (by omega) c
      refine ⟨h', ?_⟩
      rcases b with b | b <;> simp [forL, hrd _ _ _ hI, e1, a, b, q1]
theorem sFor_ret {mi : MI} {g : MG} {body : MS} {τ : TS_} {h h1 : VH} {rd : VH → Option (List T)} {ts : List T} (I : Nat → TS_ → VH → Prop) (hm : mi τ h = .ok rd h1) (h0 : I 0 τ h1) (hrd : ∀ i τ h, I i τ h → rd h = some ts) {j : Nat} (hj : j < ts.length) {t : T}
    (step : ∀ i (hi : i < ts.length), i < j → ∀ τ h, I i τ h → ∃ τ1 h1 τ2 h2, g ts[i] τ h = .ok τ1 h1 ∧ (body τ1 h1 = .nx τ2 h2 ∨ body τ1 h1 = .ct τ2 h2) ∧ I (i + 1) τ2 h2)
    (last : ∀ τ h, I j τ h → ∃ τ1 h1 h2, g ts[j] τ h = .ok τ1 h1 ∧ body τ1 h1 = .rt t h2) : ∃ h', sFor mi g body τ h = .rt t h' := by
  obtain ⟨h', q⟩ := forL_ret I hrd hj step last ts.length 0 τ h1 (by omega) (by omega) h0
  exact ⟨h', by simp [sFor, hm, hrd _ _ _ h0, q]⟩
/-- a loop that goes on to its end or hands something back -/
theorem forL_or {rd : VH → Option (List T)} {g : MG} {body : MS} {ts : List T} (I : Nat → TS_ → VH → Prop) (R : T → VH → Prop) (hrd : ∀ i τ h, I i τ h → rd h = some ts)
    (step : ∀ i (hi : i < ts.length) τ h, I i τ h → ∃ τ1 h1, g ts[i] τ h = .ok τ1 h1 ∧ ((∃ τ2 h2, body τ1 h1 = .nx τ2 h2 ∧ I (i + 1) τ2 h2) ∨ ∃ t h2, body τ1 h1 = .rt t h2 ∧ R t h2)) :
    ∀ (k i : Nat) τ h, i + k = ts.length → I i τ h → (∃ τ' h', forL rd g body ts.length k i τ h = .nx τ' h' ∧ I ts.length τ' h') ∨ ∃ t h', forL rd g body ts.length k i τ h = .rt t h' ∧ R t h' := by
  intro k
  induction k with
  | zero =>
    intro i τ h hi hI
    have e : i = ts.length := by omega
    subst e
    exact .inl ⟨τ, h, by simp [forL, hrd _ _ _ hI], hI⟩
  | succ k ih =>
    intro i τ h hi hI
    have hlt : i < ts.length := by omega
    have e1 : ts[i]? = some ts[i] := List.getElem?_eq_getElem hlt
    obtain ⟨τ1, h1, a, b⟩ := step i hlt τ h hI
    rcases b with ⟨τ2, h2, b, c⟩ | ⟨t, h2, b, c⟩
    · rcases ih (i + 1) τ2 h2 (by omega) c with ⟨τ', h', q1, q2⟩ | ⟨t, h', q1, q2⟩
      · exact .inl ⟨τ', h', by simp [forL, hrd _ _ _ hI, e1, a, b, q1], q2⟩
      · exact .inr ⟨t, h', by simp [forL, hrd _ _ _ hI, e1, a, b, q1], q2⟩
    · exact .inr ⟨t, h2, by simp [forL, hrd _ _ _ hI, e1, a, b], c⟩
theorem sFor_or {mi : MI} {g : MG} {body : MS} {τ : TS_} {h h1 : VH} {rd : VH → Option (List T)} {ts : List T} (I : Nat → TS_ → VH → Prop) (R : T → VH → Prop) (hm : mi τ h = .ok rd h1) (h0 : I 0 τ h1) (hrd : ∀ i τ h, I i τ h → rd h = some ts)
    (step : ∀ i (hi : i < ts.length) τ h, I i τ h → ∃ τ1 h1, g ts[i] τ h = .ok τ1 h1 ∧ ((∃ τ2 h2, body τ1 h1 = .nx τ2 h2 ∧ I (i + 1) τ2 h2) ∨ ∃ t h2, body τ1 h1 = .rt t h2 ∧ R t h2)) :
    (∃ τ' h', sFor mi g body τ h = .nx τ' h' ∧ I ts.length τ' h') ∨ ∃ t h', sFor mi g body τ h = .rt t h' ∧ R t h' := by
  rcases forL_or I R hrd step ts.length 0 τ h1 (by omega) h0 with ⟨τ', h', q1, q2⟩ | ⟨t, h', q1, q2⟩
  · exact .inl ⟨τ', h', by simp [sFor, hm, hrd _ _ _ h0, q1], q2⟩
  · exact .inr ⟨t, h', by simp [sFor, hm, hrd _ _ _ h0, q1], q2⟩
theorem range_at {lo : Int} {n i : Nat} (hi : i < (rangeT lo n).length) : i < n ∧ (rangeT lo n)[i] = .int (lo + i) := by
  have hl : i < n := by simpa [rangeT] using hi
  exact ⟨hl, by simp [rangeT]⟩
theorem range_len (lo : Int) (n : Nat) : (rangeT lo n).length = n := by simp [rangeT]
theorem cut1 (xs : List T) : cutT xs (some 1) none = xs.drop 1 := by
  unfold cutT HT.sIx
  simp only [Option.getD]
  cases xs with
  | nil => simp
  | cons a r =>
    have e : (min (1 : Int) ((a :: r).length : Nat)).toNat = 1 := by simp only [List.length_cons]; omega
    simp
theorem seq_nx {f g : MS} {τ τ1 : TS_} {h h1 : VH} (e : f τ h = .nx τ1 h1) : sSeq f g τ h = g τ1 h1 := by unfold sSeq; rw [e]
theorem seq_rt {f g : MS} {τ : TS_} {h h1 : VH} {t : T} (e : f τ h = .rt t h1) : sSeq f g τ h = .rt t h1 := by unfold sSeq; rw [e]
theorem defM_rt {n p : Nat} {f : MS} {ts : List T} {h h' : VH} {t : T} (hl : ts.length = p) (e : f (startT n ts) h = .rt t h') : defM n p f ts h = .ok t h' := by unfold defM; rw [if_pos hl, e]
theorem defM_nx {n p : Nat} {f : MS} {ts : List T} {h h' : VH} {τ : TS_} (hl : ts.length = p) (e : f (startT n ts) h = .nx τ h') : defM n p f ts h = .ok .non h' := by unfold defM; rw [if_pos hl, e]
theorem set_ok {i : Nat} {f : ME} {τ : TS_} {h h1 : VH} {t : T} (e : f τ h = .ok t h1) : sSet i f τ h = .nx (τ.set i (some t)) h1 := by unfold sSet; rw [e]
theorem ret_ok {f : ME} {τ : TS_} {h h1 : VH} {t : T} (e : f τ h = .ok t h1) : sRet f τ h = .rt t h1 := by unfold sRet; rw [e]
theorem if_t {c : MB} {f g : MS} {τ : TS_} {h h1 : VH} (e : c τ h = .ok true h1) : sIf c f g τ h = f τ h1 := by unfold sIf; rw [e]
theorem if_f {c : MB} {f g : MS} {τ : TS_} {h h1 : VH} (e : c τ h = .ok false h1) : sIf c f g τ h = g τ h1 := by unfold sIf; rw [e]
theorem expr_ok {f : ME} {τ : TS_} {h h1 : VH} {t : T} (e : f τ h = .ok t h1) : sExpr f τ h = .nx τ h1 := by unfold sExpr; rw [e]
theorem call_ok {b : List T → VH → Res T} {g : MA} {τ : TS_} {h h1 : VH} {ts : List T} (e : g τ h = .ok ts h1) : eCall b g τ h = b ts h1 := by unfold eCall; rw [e]
theorem cons_ok {f : ME} {g : MA} {τ : TS_} {h h1 h2 : VH} {t : T} {ts : List T} (e : f τ h = .ok t h1) (e2 : g τ h1 = .ok ts h2) : aCons f g τ h = .ok (t :: ts) h2 := by unfold aCons; simp only [e, e2]
theorem op_ok {b : T → T → VH → Res T} {f g : ME} {τ : TS_} {h h1 h2 : VH} {t u : T} (e : f τ h = .ok t h1) (e2 : g τ h1 = .ok u h2) : eOp b f g τ h = b t u h2 := by unfold eOp; simp only [e, e2]
theorem test_ok {f : ME} {τ : TS_} {h h1 : VH} {b : Bool} (e : f τ h = .ok (.bl b) h1) : bTest f τ h = .ok b h1 := by unfold bTest; simp only [e]
theorem eL_ok {f : MA} {τ : TS_} {h h1 : VH} {ts : List T} (e : f τ h = .ok ts h1) : eL f τ h = .ok (.lst ts) h1 := by unfold eL; simp only [e]
/-! ### data -/
theorem dat_int {h : VH} {k : Nat} {i : Int} : T.dat h k (.int i) = some (.int i) := by cases k <;> rfl
theorem dat_non {h : VH} {k : Nat} : T.dat h k .non = some .none := by cases k <;> rfl
theorem dat_bl {h : VH} {k : Nat} {b : Bool} : T.dat h k (.bl b) = some (.bool b) := by cases k <;> rfl
theorem dat_str {h : VH} {k : Nat} {x : Str} : T.dat h k (.str x) = some (.str x) := by cases k <;> rfl
theorem dat_lst {h : VH} {k : Nat} {ts : List T} : T.dat h (k + 1) (.lst ts) = (ts.mapM (T.dat h k)).map .list := rfl
theorem dat_tup {h : VH} {k : Nat} {ts : List T} : T.dat h (k + 1) (.tup ts) = (ts.mapM (T.dat h k)).map .tuple := rfl
theorem mapM_some {α β : Type} {f : α → Option β} {g : α → β} : ∀ {l : List α}, (∀ a ∈ l, f a = some (g a)) → l.mapM f = some (l.map g)
  | [], _ => rfl
  | a :: l, h => by
    rw [List.mapM_cons, h a List.mem_cons_self, mapM_some fun b hb => h b (List.mem_cons_of_mem _ hb)]
    rfl
theorem eqv_refl_all {α : Type} [DecidableEq α] [W.Datum α] (a : α) : PyData.eqv (W.Datum.toD a) (W.Datum.toD a) = true := by rw [W.Datum.eqv]; simp
theorem intsOf_map : ∀ ns : List Int, intsOf (ns.map T.int) = some ns
  | [] => rfl
  | n :: ns => by simp [intsOf, intsOf_map ns]
theorem blsOf_map : ∀ ns : List Bool, blsOf (ns.map T.bl) = some ns
  | [] => rfl
  | n :: ns => by simp [blsOf, blsOf_map ns]
theorem strsOf_map : ∀ ns : List Str, strsOf (ns.map T.str) = some ns
  | [] => rfl
  | n :: ns => by simp [strsOf, strsOf_map ns]
theorem ix_nn {α : Type} {xs : List α} {i : Int} (h0 : 0 ≤ i) (h1 : i < xs.length) : atI xs i = xs[i.toNat]? := by
  unfold atI ixN
  rw [if_pos h0, if_pos h1]
  rfl
end TL

set_option Elab.async false
set_option linter.all false
set_option maxRecDepth 100000
set_option maxHeartbeats 4000000
namespace TL
open PySem PySem.Spec L2 PyProof.Rows
/-! ### defs that are run where nothing is being shown: in them repr of data is known -/
/-- the code that runs around shows nothing -/
abbrev Quiet (A : Around) : Prop := A.guards = some []
/-- what a def whose mirror is m gives, called where all is quiet -/
structure FnQ (P : Program) (w : World) (K : PySem.W.Frag) (mg : Str → Option Value) (base : Heap) (Y : Wd) (k : Nat) (f : Addr) (fd : FuncData) (ps : List Str) (m : List T → VH → Res T) : Prop where
  many : ∀ ts h t h', m ts h = .ok t h' → ts.length = ps.length
  goes : ∀ (A : Around), Quiet A → Room k A → ∀ (outer : List Env) (s : Shared) (H : Hp), Env0 P w K mg base A outer s H → ∀ (args : Args) (us : List Value) (vs : List V), BindsTo s fd args (ps.zip us) → Vals vs us →
    ∀ Q : VK, spM Y m vs H Q E0 → codeAny (model P w) A (.call (.ref f) args) (CR CX0 outer P w H s Q E0) s
section
variable {P : Program} {w : World} {K : PySem.W.Frag} {mg : Str → Option Value} {base : Heap} {Y : Wd} {k : Nat} {f : Addr} {fd : FuncData} {ps N : List Str} {m : List T → VH → Res T}
theorem spM_many {vs : List V} {H : Hp} {Q : VK} {E : XK} {n : Nat} (many : ∀ ts h t h', m ts h = .ok t h' → ts.length = n) (q : spM Y m vs H Q E) : vs.length = n :=
  let ⟨_, ts, h, t, h', r, _, e, _⟩ := q
  r.length.trans (many ts h t h' e)
/-- a promise that holds everywhere -/
theorem FnQ.of (F : FnOk P w K mg base CX0 k f fd ps (spM Y m)) (many : ∀ ts h t h', m ts h = .ok t h' → ts.length = ps.length) : FnQ P w K mg base Y k f fd ps m :=
  ⟨many, fun A _ hr outer s H e0 args us vs b r Q q => F.run A outer s H args us vs Q E0 hr e0 b r q⟩
theorem FnQ.cut (F : FnQ P w K mg base Y k f fd ps m) : FnQ P w K mg base Y k f fd ps (cutM m) where
  many ts h t h' e := by
    unfold cutM at e
    cases q : m ts h with
    | bad => rw [q] at e; cases e
    | ok u h1 => exact F.many _ _ _ _ q
  goes A hq hr outer s H e0 args us vs b r Q q := F.goes A hq hr outer s H e0 args us vs b r Q (spM_cut q)
theorem defM_many {n p : Nat} {g : MS} {ts : List T} {h h' : VH} {t : T} (e : defM n p g ts h = .ok t h') : ts.length = p := by
  unfold defM at e
  split at e
  · assumption
  · cases e
/-- how a body ends, told to who called -/
theorem ends_ok {N : List Str} {qual : Str} {scope : Scope} {cd : Value} {A : Around} {outer : List Env} {s s' : Shared} {H : Hp} {Q : VK} {r : Flow}
    (z : SP (cxOf CX0 P w K mg base N qual scope f cd A outer s H E0) [] { nx := fun _ H' => Q .non H', rt := Q } r s') : ∃ u, (match r with | .next => some Value.none | .ret u => some u | _ => none) = some u ∧ CE outer P w H s Q u s' := by
  cases r with
  | next => exact let ⟨_, H', J, q⟩ := z; ⟨_, rfl, .non, H', J.os, J.bare, J.base, J.hok, rfl, q⟩
  | ret u => exact let ⟨v, _, H', J, r, q⟩ := z; ⟨_, rfl, v, H', J.os, J.bare, J.base, J.hok, r, q⟩
  | brk => exact let ⟨_, _, _, q⟩ := z; q.elim
  | cont => exact let ⟨_, _, _, q⟩ := z; q.elim
/-- from a promise by the mirror to the reading of the body -/
theorem tms_start {N : List Str} {p : Nat} {g : MS} {vs : List V} {H : Hp} {Q : VK} (q : spM Y (defM N.length p g) vs H Q E0) : TMS Y g { nx := fun _ H' => Q .non H', rt := Q } (L2.start N vs) H := by
  obtain ⟨ρ, ts, h, t, h', r, hr, e, to⟩ := q
  have hl := defM_many e
  refine ⟨ρ, startT N.length ts, h, ⟨sl_start r, hr⟩, ?_⟩
  unfold defM at e
  rw [if_pos hl] at e
  cases z : g (startT N.length ts) h with
  | nx τ' h1 => rw [z] at e; cases e; exact fun ρ' H' σ' ev hr' _ => to.to ρ' H' .non ev hr' .non
  | rt u h1 => rw [z] at e; cases e; exact fun ρ' H' v ev hr' r' => to.to ρ' H' v ev hr' r'
  | bk τ' h1 => rw [z] at e; cases e
  | ct τ' h1 => rw [z] at e; cases e
  | bad => rw [z] at e; cases e
/-- the promise of such a def, by its body -/
theorem fnQ {x qual : Str} {params : Arguments} {body : List Stmt} {scope : Scope} {dvs : List V} {kws : List (Str × V)} {g : MS} (F : FunD K x qual params body scope dvs kws f fd) (S : FnScope N ps scope) (n p : Nat) (hn : N.length = n := by rfl) (hp : ps.length = p := by rfl)
    (hb : ∀ (cdv : Value) (A : Around) (outer : List Env) (s : Shared) (H : Hp) (E : XK), Quiet (A.deeper (envOfC qual scope s.heap.objs.size f cdv)) → Room k (A.deeper (envOfC qual scope s.heap.objs.size f cdv)) → PSs (cxOf CX0 P w K mg base N qual scope f cdv A outer s H E).nox body (TMS Y g)) :
    FnQ P w K mg base Y (k + 1) f fd ps (defM n p g) := by
  subst hn hp
  refine ⟨fun ts h t h' e => defM_many e, ?_⟩
  intro A quiet hr outer s H e0 args us vs bound r Q q
  have hl : vs.length = ps.length := spM_many (fun ts h t h' e => defM_many e) q
  obtain ⟨oc, od, dV, kV, doc, pm, an, cdv, ct, osl, rfl, lk, hcd, -⟩ := F.ex
  have older : ∀ b o, base.get? b = some o → s.heap.get? b = some o := fun b o e => (e0.bs b o e).1
  have KX := e0.mod.kin.keeps older
  refine codeAny_call_function hr.depth (KX f _ lk) rfl S.co S.gen rfl (PySem.W.codeRec_of KX hcd) (bound _ _ _ _ (wpAny_newFunctionEnv_cells S.kind ?kinds ?body))
  case kinds =>
    rintro ⟨nm, u⟩ hy
    have hy := (List.of_mem_zip hy).1
    exact (S.par nm hy).imp id fun c => ⟨c, PySem.W.cellsFrom_some _ _ _ (.inl c)⟩
  case body =>
    rintro _ rfl s1 inside
    have run := ((hb cdv A outer s H E0 quiet (hr.deeper _)).nox).run [] s1 (L2.start N vs) H _ (inv_start S hr.hd e0 hl r inside) (tms_start q)
    refine ⟨(e0.mod.nolimit.keeps older).keeps inside.toInCall.keep, codeAny_func (wpAny_mono run ?_ fun _ _ z => z)⟩
    intro fl s' z
    obtain ⟨u, eu, ce⟩ := ends_ok z
    cases fl <;> cases eu <;> exact ce
end
section
variable {X : Cx} {Y : Wd}
/-- such a def called by its name -/
theorem xCallQ {k : Nat} {f : Addr} {fd : FuncData} {ps : List Str} {m : List T → VH → Res T} {x : Str} {p pos : Pos} {e : Expr} {es : List Expr} {g : MA} (F : FnQ X.prog X.w X.K X.mg X.base Y k f fd ps m) (quiet : Quiet X.A) (hr : Room k X.A) (hg : Gl X x) (hm : X.mg x = some (.ref f)) (kp : PySem.W.keepIn X.K (.ref f) = true)
    (hb : Binds X.K fd ps []) (ha : PA X (e :: es) (TMA Y g)) (hdb : (x == ("__debug__" : Str)) = false := by decide) (he : starEach (e :: es) X.env = (false, eval e X.env) :: starEach es X.env := by rfl) (hpl : (backTo pos (starEach es X.env)).any (·.1) = false := by rfl) :
    PE X (.Call (.Name x p) (e :: es) [] pos) (TM Y (eCall m g)) := by
  constructor
  intro pins s σ H Q I q
  have args := ha.run pos pins s σ H _ I (tm_call (ct_sp (m := m) E0) q)
  refine wpAny_Call_Name_kw (ld_glob I hg hm (PySem.W.callWith_K (h₀ := X.base) I.mod.kin kp (thn args ?_) he hpl) hdb)
  rintro us s1 ⟨vs, H1, J, r, sp⟩
  have eu : us.length = ps.length := r.length.symm.trans (spM_many F.many sp)
  have bd := hb s1 us J.kIn (by rw [List.append_nil]; exact eu)
  rw [List.append_nil] at bd
  refine ⟨J.kIn, wpAny_call (codeAny_mono (F.goes X.A quiet hr X.stack s1 H1 J.env0 _ us vs bd r Q sp) ?_)⟩
  intro res s2 z
  match res, z with
  | .ok (.ret u), z => exact J.after z
  | .error v, z => exact z.elim
end
/-! ### the law itself, called by the judge -/
section
variable {P : Program} {w : World} {K : PySem.W.Frag} {mg mb : Str → Option Value} {Y : Wd} {k : Nat} {fa a : Addr} {fd : FuncData} {x : Str} {m : List T → VH → Res T} {s : Shared} {vs : List Value} {ns : List Int}
theorem lawQ (inK : K.In s.heap) (glo : s.heap.Ns mainGlobals mg) (blt : s.heap.Ns builtinsNs mb) (std : ∀ x : Str, x ≠ "__name__" → mb x = bootBuiltins x) (noLim : s.heap.NoLimit) (noGen : s.gens = #[])
    (at_ : s.heap.get? a = some { cls := .type "list", data := .seq vs.toArray }) (nums : IntsAre vs ns) (few : ns.length ≤ sizeLine) (hr : Room k callerA) (hY : Y.K = K)
    (F : ∀ base : Heap, K.In base → base.Ns mainGlobals mg → FnQ P w K mg base Y k fa fd [x] m) (bind : ∀ (s : Shared) (u : Value), BindsTo s fd ⟨[u], []⟩ [(x, u)]) (law : ∃ h', m [.arg (ns.map T.int)] [] = .ok (.bl true) h') :
    codeAny (model P w) callerA (.call (.ref fa) ⟨[.ref a], []⟩) (fun r s' => r = .ok (.ret (.bool true)) ∧ OldK s.heap s'.heap ∧ s'.os = s.os ∧ AllBare s'.gens) s := by
  obtain ⟨h', law⟩ := law
  obtain ⟨o, ho⟩ : ∃ o : Obj, o = { cls := .type "list", data := .seq vs.toArray } := ⟨_, rfl⟩
  have at_ := ho ▸ at_
  -- the script alone is tracked, where it is no object of the module
  obtain ⟨H, hH⟩ : ∃ H : Hp, ∀ b, H b = if b = a ∧ K.lookup a = none then some (.frz o (.lst (ns.map V.int))) else none := ⟨_, fun b => rfl⟩
  have what : ∀ b u, H b = some u → b = a ∧ K.lookup a = none ∧ u = .frz o (.lst (ns.map V.int)) := fun b u e => by
    rw [hH] at e
    split at e
    · rename_i c; exact ⟨c.1, c.2, (Option.some.inj e).symm⟩
    · cases e
  have rel := vals_ints nums
  have size : (ns.map V.int).length ≤ sizeLine := by rw [List.length_map]; exact few
  have hok : HOk P w H s.heap := fun b u e => by
    obtain ⟨rfl, -, rfl⟩ := what b u e
    exact ⟨at_, size, vs, _, rel, ho ▸ at_⟩
  have script : SqL Y.K H a (ns.map V.int) := by
    rw [hY]
    cases lk : K.lookup a with
    | none => exact .inl (.inr ⟨o, (hH a).trans (if_pos ⟨rfl, lk⟩)⟩)
    | some q =>
      obtain rfl : o = q := Option.some.inj (at_.symm.trans (inK a q lk))
      exact .inr ⟨o, vs.toArray, _, lk, by rw [ho], by rw [ho], by rw [ho], by rw [List.size_toArray, ← rel.length]; exact size, rel⟩
  -- dicts are not tracked
  have names : ∀ {L : Addr} {f : Str → Option Value}, s.heap.Ns L f → (hidT s.heap H).Ns L f := fun {L f} ⟨q, es, ep, e, d, r⟩ => by
    refine ⟨q, es, ep, hidT_get e ?_, d, r⟩
    cases z : H L with
    | none => rfl
    | some u =>
      obtain ⟨rfl, -⟩ := what L u z
      rw [at_] at e
      obtain rfl := Option.some.inj e
      rw [ho] at d
      cases d
  have inB : K.In (hidT s.heap H) := fun b q e => by
    refine hidT_get (inK b q e) ?_
    cases z : H b with
    | none => rfl
    | some u =>
      obtain ⟨rfl, lk, -⟩ := what b u z
      rw [lk] at e
      cases e
  have env : Env0 P w K mg (hidT s.heap H) callerA [] s H := by
    constructor
    · rfl
    · exact ⟨inB, names glo, ⟨mb, names blt, std⟩, let ⟨mc, l1, l2⟩ := noLim; ⟨mc, names l1, l2⟩⟩
    · exact fun b q e => of_hidT e
    · exact Nat.le_of_eq (hidT_size s.heap H)
    · trivial
    · intro b hb; cases hb
    · exact hok
    · exact .of_eq noGen
  have run := (F _ inB (names glo)).goes callerA rfl hr [] s H env ⟨[.ref a], []⟩ [.ref a] [.ref a] (bind s (.ref a)) (.cons rfl .nil) _ (law_sp script few law)
  refine codeAny_mono run ?_
  intro r s' z
  match r, z with
  | .ok (.ret u), ⟨v, H', os, bare, un, hok', rv, q⟩ =>
    obtain rfl : v = .bl true := q
    obtain rfl : u = .bool true := rv
    refine ⟨rfl, .of_keep fun b ob e => ?_, os, bare⟩
    cases hb : H b with
    | none => exact un.keep b ob e hb List.not_mem_nil List.not_mem_nil
    | some u =>
      obtain ⟨rfl, -, rfl⟩ := what b u hb
      rw [at_] at e
      obtain rfl := Option.some.inj e
      exact (hok' b _ (un.frzs _ _ _ hb)).1
end
/-- the goal that a head leaves, for a law whose def is run where all is quiet -/
theorem walkQ {l : PySem.W.OpenLaw} {n k : Nat} {q : Program} {loose : List Str} {XP : (Str → Option Value) → Heap → Prop} {YP : World → Heap → Prop} {d : DefRec} {x : Str} (most : l.most = some n) (small : n ≤ sizeLine) (plain : d.params.defaults = []) (hr : Room k callerA)
    (F : ∀ (w : World) (mg : Str → Option Value) (fa : Addr) (h : Heap), YP w h → h.Ns mainGlobals mg → mg d.name = some (.ref fa) →
      ∃ (K : PySem.W.Frag) (fd : FuncData) (Y : Wd) (m : List T → VH → Res T), K.In h ∧ Y.K = K ∧ (∀ (s : Shared) (u : Value), BindsTo s fd ⟨[u], []⟩ [(x, u)]) ∧ (∀ ns : List Int, ns.length ≤ n → ∃ h', m [.arg (ns.map T.int)] [] = .ok (.bl true) h') ∧
        ∀ base : Heap, K.In base → base.Ns mainGlobals mg → FnQ l.prog w K mg base Y k fa fd [x] m) : PySem.W.WalkO q loose XP YP l.row.toRowW d [] (fun f vs => PySem.call f vs) := by
  refine Att.attach_call most plain ?_
  intro w s₀ s₁ mg mb fa o pm cd doc a vs ns G Y' ho hd hcd named script nums len noGen
  obtain ⟨K, fd, Y, m, inK, hY, bind, law, hF⟩ := F w mg fa _ Y' G.T.g named
  exact lawQ inK G.T.g G.T.b G.T.builtins G.T.nolimit noGen script nums (Nat.le_trans len small) hr hY hF bind (law ns len)
/-! ### repr of data -/
section
variable {X : Cx} {Y : Wd}
def rRepr (K : PySem.W.Frag) : List V → Hp → VK → Prop := fun vs H Q => ∃ x d, vs = [x] ∧ Dp K H x d ∧ d.showable = true ∧ d.hasDict = false ∧ d.depth ≤ 12 ∧ d.shown.length ≤ sizeLine ∧ Q (.str d.shown) H
theorem cr_repr (quiet : Quiet X.A) (room : X.A.units + 80 < cLine) : CallR X (.builtin "repr") (rRepr X.K) := by
  rintro pins s σ H _ us Q I r ⟨x, d, rfl, dp, sh, nd, dz, sz, q⟩
  match us, r with
  | [u], .cons rx .nil =>
    obtain ⟨as, rd⟩ := Dp.reads I d x u dp rx
    have fin : ∀ h' t tk, (∀ b o, s.heap.get? b = some o → h'.get? b = some o) → EP X pins σ Q (.str d.shown t) { s with heap := h', toks := tk } := fun h' t tk k => ⟨.str d.shown, H, I.kept k, ⟨t, rfl⟩, q⟩
    cases x with
    | ref b =>
      cases rx
      exact repr_of_reads' rd sh (fun e => by rw [nd] at e; cases e) quiet (by omega) (fun _ _ e => e) (fun h' t tk k => fin h' t tk k) sz
    | non => cases rx; cases dp; exact PySem.P.repr_of_none (fin s.heap _ _ fun _ _ e => e)
    | bl b => cases rx; cases dp; exact PySem.P.repr_of_bool (fin s.heap _ _ fun _ _ e => e)
    | int i => obtain ⟨t, rfl⟩ := rx; cases dp; exact PySem.P.repr_of_int (by simpa [PyData.showable] using sh) (fin s.heap _ _ fun _ _ e => e)
    | str z => obtain ⟨t, rfl⟩ := rx; cases dp; exact PySem.P.repr_of_str (fin s.heap _ _ fun _ _ e => e) sz
    | _ => cases dp
/-- repr(e) -/
def fRepr : List T → VH → Res T := fun ts h => match ts with
  | [t] => (match t.dat h 10 with
    | some d => if (d.showable && !d.hasDict && decide (d.shown.length ≤ 1000000)) = true then .ok (.str d.shown) h else .bad
    | none => .bad)
  | _ => .bad
theorem ct_repr : CT Y (rRepr Y.K) fRepr := fun ρ H ts vs h t h' Q r hr e to => by
  unfold fRepr at e
  split at e
  · rename_i u
    split at e
    · rename_i d ed
      split at e
      · rename_i c
        simp only [Bool.and_eq_true, Bool.not_eq_true', decide_eq_true_eq] at c
        cases e
        obtain ⟨v, rfl, rv⟩ := rps_one r
        obtain ⟨dp, _, dz⟩ := dat_ok hr _ _ _ _ rv ed
        exact ⟨v, d, rfl, dp, c.1.1, c.1.2, by omega, by rw [sizeLine_eq]; omega, to.to ρ H _ .refl hr (.str c.2)⟩
      · cases e
    · cases e
  · cases e
end
end TL

set_option Elab.async false
set_option linter.all false
set_option maxRecDepth 100000
set_option maxHeartbeats 4000000
namespace TL
open PySem PySem.Spec L2
/-! ### dicts with keys ints and texts -/
def keyT : T → Option Key
  | .int i => some (.inl i)
  | .str z => some (.inr z)
  | _ => none
section
variable {Y : Wd} {ρ : Rh} {H : Hp}
theorem keyT_ok {t : T} {v : V} {k : Key} (r : Rp Y ρ H t v) (e : keyT t = some k) : v = kV k := by
  cases r <;> simp [keyT] at e <;> subst e <;> rfl
theorem keyT_of {t : T} {k : Key} (r : Rp Y ρ H t (kV k)) : keyT t = some k := by
  cases k with
  | inl i => cases r; rfl
  | inr z => cases r; rfl
/-- pairs and what they stand for -/
inductive DR (Y : Wd) (ρ : Rh) (H : Hp) : List (T × T) → List (Key × V) → Prop
  | nil : DR Y ρ H [] []
  | cons {kt t : T} {k : Key} {v : V} {kvs : List (T × T)} {vk : List (Key × V)} : Rp Y ρ H kt (kV k) → Rp Y ρ H t v → DR Y ρ H kvs vk → DR Y ρ H ((kt, t) :: kvs) ((k, v) :: vk)
theorem DR.keys {kvs : List (T × T)} {vk : List (Key × V)} (d : DR Y ρ H kvs vk) : Rps Y ρ H (kvs.map (·.1)) (vk.map fun q => kV q.1) := by
  induction d with
  | nil => exact .nil
  | cons a b _ ih => exact .cons a ih
theorem DR.vals {kvs : List (T × T)} {vk : List (Key × V)} (d : DR Y ρ H kvs vk) : Rps Y ρ H (kvs.map (·.2)) (vk.map (·.2)) := by
  induction d with
  | nil => exact .nil
  | cons a b _ ih => exact .cons b ih
theorem DR.of : ∀ {kvs : List (T × T)} {vk : List (Key × V)}, Rps Y ρ H (kvs.map (·.1)) (vk.map fun q => kV q.1) → Rps Y ρ H (kvs.map (·.2)) (vk.map (·.2)) → DR Y ρ H kvs vk
  | [], [], _, _ => .nil
  | [], _ :: _, a, _ => by cases a
  | _ :: _, [], a, _ => by cases a
  | (_, _) :: _, (_, _) :: _, a, b => by
    cases a with
    | cons a1 a2 => cases b with
      | cons b1 b2 => exact .cons a1 b1 (DR.of a2 b2)
theorem DR.or {kvs : List (T × T)} {vk : List (Key × V)} {a : Addr} (d : DR Y ρ H kvs vk) (e : H a = some (.dK vk)) : OR Y ρ H a (.dct kvs) := ⟨vk, e, d.keys, d.vals⟩
theorem DR.length {kvs : List (T × T)} {vk : List (Key × V)} (d : DR Y ρ H kvs vk) : vk.length = kvs.length := by
  induction d with
  | nil => rfl
  | cons _ _ _ ih => simp [ih]
theorem or_dct {kvs : List (T × T)} {a : Addr} (o : OR Y ρ H a (.dct kvs)) : ∃ vk, H a = some (.dK vk) ∧ DR Y ρ H kvs vk := by
  obtain ⟨vk, e, k, v⟩ := o
  exact ⟨vk, e, .of k v⟩
/-- what stands at a key -/
def getT (kvs : List (T × T)) (k : Key) : Option T := (kvs.find? fun q => decide (keyT q.1 = some k)).map (·.2)
def putT (kvs : List (T × T)) (k : Key) (kt v : T) : List (T × T) :=
  if (kvs.any fun q => decide (keyT q.1 = some k)) = true then kvs.map (fun q => if keyT q.1 = some k then (q.1, v) else q) else kvs ++ [(kt, v)]
theorem key_iff {kt : T} {k j : Key} (r : Rp Y ρ H kt (kV k)) : decide (keyT kt = some j) = decide (k = j) := by
  rw [keyT_of r]
  exact decide_eq_decide.mpr ⟨fun z => Option.some.inj z, fun z => by rw [z]⟩
theorem DR.get {kvs : List (T × T)} {vk : List (Key × V)} (d : DR Y ρ H kvs vk) (j : Key) : (getT kvs j = none ∧ valV vk j = none) ∨ ∃ t v, getT kvs j = some t ∧ valV vk j = some v ∧ Rp Y ρ H t v := by
  induction d with
  | nil => exact .inl ⟨rfl, rfl⟩
  | @cons kt t k v kvs vk a b d ih =>
    by_cases c : k = j
    · refine .inr ⟨t, v, ?_, valV_pos c, b⟩
      have := key_iff (j := j) a
      rw [decide_eq_true c] at this
      simp [getT, List.find?_cons, of_decide_eq_true this]
    · have e := key_iff (j := j) a
      rw [decide_eq_false c] at e
      rw [valV_neg c]
      have : getT ((kt, t) :: kvs) j = getT kvs j := by simp [getT, List.find?_cons, e]
      rw [this]
      exact ih
theorem DR.any {kvs : List (T × T)} {vk : List (Key × V)} (d : DR Y ρ H kvs vk) (j : Key) : (kvs.any fun q => decide (keyT q.1 = some j)) = vk.any fun q => decide (q.1 = j) := by
  induction d with
  | nil => rfl
  | cons a b d ih => simp only [List.any_cons, ih, key_iff a]
theorem DR.snoc {kvs : List (T × T)} {vk : List (Key × V)} (d : DR Y ρ H kvs vk) {kt t : T} {k : Key} {v : V} (a : Rp Y ρ H kt (kV k)) (b : Rp Y ρ H t v) : DR Y ρ H (kvs ++ [(kt, t)]) (vk ++ [(k, v)]) := by
  induction d with
  | nil => exact .cons a b .nil
  | cons a' b' _ ih => exact .cons a' b' ih
theorem DR.swap {kvs : List (T × T)} {vk : List (Key × V)} (d : DR Y ρ H kvs vk) {t : T} {k : Key} {v : V} (b : Rp Y ρ H t v) : DR Y ρ H (kvs.map fun q => if keyT q.1 = some k then (q.1, t) else q) (vk.map fun q => if q.1 = k then (q.1, v) else q) := by
  induction d with
  | nil => exact .nil
  | @cons kt' t' k' v' kvs vk a' b' d ih =>
    have e := key_iff (j := k) a'
    by_cases c : k' = k
    · rw [decide_eq_true c] at e
      simp only [List.map_cons, of_decide_eq_true e, c, if_true]
      exact .cons (c ▸ a') b ih
    · rw [decide_eq_false c] at e
      simp only [List.map_cons, of_decide_eq_false e, c, if_false]
      exact .cons a' b' ih
theorem DR.put {kvs : List (T × T)} {vk : List (Key × V)} (d : DR Y ρ H kvs vk) {kt t : T} {k : Key} {v : V} (a : Rp Y ρ H kt (kV k)) (b : Rp Y ρ H t v) : DR Y ρ H (putT kvs k kt t) (putK vk k v) := by
  unfold putT putK
  rw [d.any k]
  split
  · exact d.swap b
  · exact d.snoc a b
theorem DR.ev {ρ' : Rh} {H' : Hp} (e : EvR ρ H ρ' H') {kvs : List (T × T)} {vk : List (Key × V)} (d : DR Y ρ H kvs vk) : DR Y ρ' H' kvs vk := by
  induction d with
  | nil => exact .nil
  | cons a b _ ih => exact .cons (a.ev e) (b.ev e) ih
end
/-! ### displays -/
abbrev MP := TS_ → VH → Res (List (T × T))
def pNil : MP := fun _ h => .ok [] h
def pCons (fk fv : ME) (g : MP) : MP := fun τ h => match fk τ h with
  | .ok k h1 => (match fv τ h1 with
    | .ok v h2 => (match g τ h2 with
      | .ok r h3 => .ok ((k, v) :: r) h3
      | .bad => .bad)
    | .bad => .bad)
  | .bad => .bad
def mergeT : List (T × T) → List (T × T) → Option (List (T × T))
  | acc, [] => some acc
  | acc, (kt, v) :: r => match keyT kt with
    | some k => mergeT (putT acc k kt v) r
    | none => none
def eDisp (g : MP) : ME := fun τ h => match g τ h with
  | .ok ps h1 => if ps.length ≤ 15 then (match mergeT [] ps with
    | some kvs => .ok (.ref h1.length) (h1 ++ [.dct kvs])
    | none => .bad) else .bad
  | .bad => .bad
section
variable {X : Cx} {Y : Wd}
/-- the pairs, as values -/
def PR (Y : Wd) (ρ : Rh) (H : Hp) (ps : List (T × T)) (vs : List (V × V)) : Prop := Rps Y ρ H (ps.map (·.1)) (vs.map (·.1)) ∧ Rps Y ρ H (ps.map (·.2)) (vs.map (·.2))
def TMP (Y : Wd) (g : MP) (σ : St) (H : Hp) (R : List (V × V) → Hp → Prop) : Prop := ∃ ρ τ h ps h', Go Y ρ H τ σ h ∧ g τ h = .ok ps h' ∧ ∀ ρ' H' vs, Ev ρ H ρ' H' → HR Y ρ' H' h' → PR Y ρ' H' ps vs → R vs H'
structure PD (X : Cx) (Y : Wd) (pos : Pos) (keys : List (Option Expr)) (values : List Expr) (g : MP) : Prop where
  ex : ∃ trs, PPs X pos keys values trs ∧ ∀ σ H R, TMP Y g σ H R → tPairs trs σ H R
theorem xpNil {pos : Pos} : PD X Y pos [] [] pNil := ⟨[], pps_nil, fun σ H R q => by
  obtain ⟨ρ, τ, h, ps, h', G, e, to⟩ := q
  cases e
  exact to ρ H [] .refl G.hr ⟨.nil, .nil⟩⟩
theorem xpCons {pos : Pos} {k v : Expr} {ks : List (Option Expr)} {vs : List Expr} {fk fv : ME} {g : MP} (hk : PE X k (TM Y fk)) (hv : PE X v (TM Y fv)) (hr : PD X Y pos ks vs g) : PD X Y pos (some k :: ks) (v :: vs) (pCons fk fv g) := by
  obtain ⟨trs, pp, i⟩ := hr.ex
  refine ⟨_, pps_cons hk hv pp, ?_⟩
  rintro σ H R ⟨ρ, τ, h, ps, h', G, e, to⟩
  unfold pCons at e
  cases e1 : fk τ h with
  | bad => rw [e1] at e; cases e
  | ok kt h1 =>
    simp only [e1] at e
    cases e2 : fv τ h1 with
    | bad => simp only [e2] at e; cases e
    | ok t h2 =>
      simp only [e2] at e
      cases e3 : g τ h2 with
      | bad => simp only [e3] at e; cases e
      | ok r h3 =>
        simp only [e3] at e
        cases e
        refine ⟨ρ, τ, h, kt, h1, G, e1, ⟨fun ρ1 H1 x ev1 hr1 rx => ⟨ρ1, τ, h1, t, h2, G.ev ev1 hr1, e2, ⟨fun ρ2 H2 y ev2 hr2 ry => i _ _ _ ?_⟩⟩⟩⟩
        refine ⟨ρ2, τ, h2, r, _, (G.ev ev1 hr1).ev ev2 hr2, e3, fun ρ3 H3 zs ev3 hr3 pr => to ρ3 H3 ((x, y) :: zs) ((ev1.trans ev2).trans ev3) hr3 ?_⟩
        exact ⟨.cons (rx.ev (ev2.trans ev3).toEvR) pr.1, .cons (ry.ev ev3.toEvR) pr.2⟩
theorem pairs_keys {ρ : Rh} {H : Hp} : ∀ {ps : List (T × T)} {vs : List (V × V)} {acc kvs : List (T × T)}, PR Y ρ H ps vs → mergeT acc ps = some kvs → ∃ more : List (Key × V), vs = more.map (fun kv => (kV kv.1, kv.2)) ∧ more.length = ps.length ∧
    ∀ vk, DR Y ρ H acc vk → DR Y ρ H kvs (mergeK vk more)
  | [], vs, acc, kvs, pr, e => by
    cases vs with
    | nil => simp only [mergeT, Option.some.injEq] at e; subst e; exact ⟨[], rfl, rfl, fun vk d => d⟩
    | cons _ _ => cases pr.1
  | (kt, t) :: ps, vs, acc, kvs, pr, e => by
    cases vs with
    | nil => cases pr.1
    | cons v vs =>
      obtain ⟨x, y⟩ := v
      obtain ⟨p1, p2⟩ := pr
      cases p1 with
      | cons a p1 => cases p2 with
        | cons b p2 =>
          unfold mergeT at e
          split at e
          · rename_i k ek
            obtain rfl : x = kV k := keyT_ok a ek
            obtain ⟨more, rfl, hl, i⟩ := pairs_keys ⟨p1, p2⟩ e
            exact ⟨(k, y) :: more, rfl, by simp [hl], fun vk d => i _ (d.put a b)⟩
          · cases e
theorem DR.topush {ρ : Rh} {H : Hp} {p : Addr} {kvs : List (T × T)} {vk : List (Key × V)} (d : DR Y (ρ.ban p) H kvs vk) : DR Y (ρ.push p) H kvs vk := by
  induction d with
  | nil => exact .nil
  | cons a b _ ih => exact .cons a.topush b.topush ih
theorem DR.updb {ρ : Rh} {H : Hp} {p : Addr} {o : HO} (hp : p ∈ ρ.bn) {kvs : List (T × T)} {vk : List (Key × V)} (d : DR Y ρ H kvs vk) : DR Y ρ (upd H p o) kvs vk := by
  induction d with
  | nil => exact .nil
  | cons a b _ ih => exact .cons (a.updb hp) (b.updb hp) ih
/-- a written dict, one that may change -/
theorem xDisp {pos : Pos} {keys : List (Option Expr)} {values : List Expr} {g : MP} (hp : PD X Y pos keys values g) (hall : keys.all (·.isSome) = true := by rfl) (hl : keys.length = values.length := by rfl) (h0 : keys ≠ [] := by intro z; cases z) (h15 : keys.length ≤ 15 := by decide) :
    PE X (.Dict keys values pos) (TM Y (eDisp g)) := by
  obtain ⟨trs, pp, i⟩ := hp.ex
  refine pe_imp (pe_disp pp hall hl h0 h15) fun σ H Q q => ?_
  obtain ⟨ρ, τ, h, u, h', G, e, to⟩ := q
  unfold eDisp at e
  split at e
  case h_2 => cases e
  rename_i ps h1 e1
  split at e
  case isFalse => cases e
  rename_i few
  split at e
  case h_2 => cases e
  rename_i kvs em
  cases e
  intro p hp
  refine i _ _ _ ⟨ρ.ban p, τ, h, ps, h1, ⟨⟨G.sl.1, fun i t ht => let ⟨v, a, b⟩ := G.sl.2 i t ht; ⟨v, a, (b.ban hp).updb List.mem_cons_self⟩⟩, G.hr.begin hp⟩, e1, fun ρ' H' vs ev hr pr => ?_⟩
  have mb : p ∈ (ρ.ban p).bn := List.mem_cons_self
  have stays : H' p = some (.dK []) := ev.keep p _ upd_same ((G.hr.begin (o := .dK []) hp).bt p mb).2
  obtain ⟨more, rfl, hl2, dr⟩ := pairs_keys pr em
  refine ⟨stays, more, rfl, by omega, ?_⟩
  obtain ⟨ρ8, rfl, ev8⟩ := ban_split hp (Ev.new (o := .dK []) hp) ev
  have mb8 : p ∈ (ρ8.ban p).bn := List.mem_cons_self
  have d := (dr [] .nil).updb (o := .dK (mergeK [] more)) mb8
  have nb : p ∉ ρ8.bn := fun z => by
    rw [ev8.bn] at z
    exact (G.hr.bt p z).1 hp
  have hr2 := (hr.updb (o := .dK (mergeK [] more)) mb8).topush nb (d.topush.or upd_same)
  refine to.to (ρ8.push p) _ _ ?_ hr2 (.ref ?_)
  · have evf := ev8.updf (o := .dK (mergeK [] more)) hp
    refine .mk' ?_ evf.bn evf.keep evf.there
    obtain ⟨m, em, hm⟩ := evf.more
    refine ⟨m ++ [p], by simp [Rh.push, em], fun b hb => ?_⟩
    rcases List.mem_append.mp hb with z | z
    · exact hm b z
    · rw [List.mem_singleton.mp z]; exact hp
  · have : ρ8.ix.length = h1.length := hr.len
    show (ρ8.ix ++ [p])[h1.length]? = _
    rw [List.getElem?_append_right (by omega), this]
    simp
/-- {} -/
def eDNew : ME := fun τ h => .ok (.ref h.length) (h ++ [.dct []])
theorem xDNew {pos : Pos} : PE X (.Dict [] [] pos) (TM Y eDNew) := pe_imp pe_dnewK fun σ H Q q => by
  obtain ⟨ρ, τ, h, u, h', G, e, to⟩ := q
  cases e
  intro p hp
  refine to.to (ρ.push p) _ _ (Ev.newρ hp) (G.hr.push hp (DR.nil.or upd_same)) (.ref ?_)
  show (ρ.ix ++ [p])[h.length]? = _
  rw [List.getElem?_append_right (by rw [G.hr.len]; exact Nat.le_refl _), G.hr.len]
  simp
theorem room1 {k : Nat} {A : Around} (r : Room k A) : A.units + 1 < cLine := by have := r.un; omega
/-- d[k] -/
def bGetD (a b : T) (h : VH) : Res T := match a with
  | .ref n => (match h[n]?, keyT b with
    | some (.dct kvs), some k => (match getT kvs k with
      | some t => .ok t h
      | none => .bad)
    | _, _ => .bad)
  | _ => .bad
theorem xDGet {o i : Expr} {pos : Pos} {f g : ME} (hu : X.A.units + 1 < cLine) (ho : PE X o (TM Y f)) (hi : PE X i (TM Y g)) (hs : NoSl i := by intro _ _; rfl) : PE X (.Subscript o i pos) (TM Y (eOp bGetD f g)) := pe_imp (pe_dget hu ho hi hs) fun σ H Q q => by
  refine tm_op (r := fun x y H Q => ∃ a v, x = .ref a ∧ DGet H a y (some v) ∧ Q v H) ?_ q
  intro ρ H t1 t2 v1 v2 h t h' Q r1 r2 hr e to
  unfold bGetD at e
  split at e
  · rename_i n
    split at e
    · rename_i kvs k en ek
      split at e
      · rename_i t0 et
        cases e
        cases r1 with
        | @ref _ a ha =>
          obtain ⟨vk, ea, d⟩ := or_dct (hr.at_ n _ a en ha)
          rcases d.get k with ⟨z, _⟩ | ⟨t1, v, z, ev, rv⟩
          · rw [et] at z; cases z
          · rw [et] at z
            cases z
            obtain rfl := keyT_ok r2 ek
            exact ⟨a, v, rfl, ev ▸ DGet.k ea, to.to ρ H _ .refl hr rv⟩
      · cases e
    · cases e
  · cases e
end
end TL

set_option Elab.async false
set_option linter.all false
set_option maxRecDepth 100000
set_option maxHeartbeats 4000000
namespace TL
open PySem PySem.Spec L2 PyProof.Rows
/-! ### calls by keywords alone -/
def permL {α : Type} (ix : List Nat) (l : List α) : List α := ix.filterMap (l[·]?)
theorem Vals.perm {zs : List V} {ws : List Value} (r : Vals zs ws) : ∀ ix : List Nat, Vals (permL ix zs) (permL ix ws)
  | [] => .nil
  | i :: ix => by
    have ih := Vals.perm r ix
    unfold permL at ih ⊢
    simp only [List.filterMap_cons]
    cases e : zs[i]? with
    | none =>
      have := r.none_of e
      rw [this]
      exact ih
    | some z =>
      obtain ⟨u, e1, e2⟩ := r.get e
      rw [e1]
      exact .cons e2 ih
theorem Rps.perm {Y : Wd} {ρ : Rh} {H : Hp} {ts : List T} {vs : List V} (r : Rps Y ρ H ts vs) : ∀ ix : List Nat, Rps Y ρ H (permL ix ts) (permL ix vs)
  | [] => .nil
  | i :: ix => by
    have ih := Rps.perm r ix
    unfold permL at ih ⊢
    simp only [List.filterMap_cons]
    cases e : ts[i]? with
    | none =>
      have : vs[i]? = none := by
        rw [List.getElem?_eq_none_iff] at e ⊢
        rw [r.length]; exact e
      rw [this]
      exact ih
    | some t =>
      obtain ⟨v, e1, e2⟩ := r.get e
      rw [e1]
      exact .cons e2 ih
section
variable {X : Cx} {Y : Wd}
theorem xkNil : PK X [] (TMA Y aNil) := ⟨fun pos pins s σ H Q I q => by
  obtain ⟨ρ, τ, h, t, h', G, e, to⟩ := q
  cases e
  exact pk_nil.run pos pins s σ H Q I (to.to ρ H [] .refl G.hr .nil)⟩
theorem xkCons {nm : Option Str} {e : Expr} {kpos : Pos} {kws : List Keyword} {f : ME} {g : MA} (ha : PE X e (TM Y f)) (hr : PK X kws (TMA Y g)) : PK X (⟨nm, e, kpos⟩ :: kws) (TMA Y (aCons f g)) := ⟨fun pos pins s σ H Q I q => by
  refine (pk_cons ha hr).run pos pins s σ H Q I ?_
  obtain ⟨ρ, τ, h, u, h', G, e, to⟩ := q
  unfold aCons at e
  cases e1 : f τ h with
  | bad => simp only [e1] at e; cases e
  | ok t h1 =>
    simp only [e1] at e
    cases e2 : g τ h1 with
    | bad => simp only [e2] at e; cases e
    | ok ts h2 =>
      simp only [e2] at e
      cases e
      exact ⟨ρ, τ, h, t, h1, G, e1, ⟨fun ρ1 H1 v ev hr1 r => ⟨ρ1, τ, h1, _, _, G.ev ev hr1, e2, ⟨fun ρ2 H2 vs ev2 hr2 rs => to.to ρ2 H2 (v :: vs) (ev.trans ev2) hr2 (.cons (r.ev ev2.toEvR) rs)⟩⟩⟩⟩⟩
/-- the keywords' values, in the parameters' order -/
def aPerm (ix : List Nat) (g : MA) : MA := fun τ h => match g τ h with
  | .ok ts h1 => .ok (permL ix ts) h1
  | .bad => .bad
theorem tma_perm {ix : List Nat} {g : MA} {σ : St} {H : Hp} {R : List V → Hp → Prop} (q : TMA Y (aPerm ix g) σ H R) : TMA Y g σ H fun zs H1 => R (permL ix zs) H1 := by
  obtain ⟨ρ, τ, h, u, h', G, e, to⟩ := q
  unfold aPerm at e
  cases e1 : g τ h with
  | bad => rw [e1] at e; cases e
  | ok ts h1 =>
    rw [e1] at e
    cases e
    exact ⟨ρ, τ, h, ts, _, G, e1, ⟨fun ρ' H' zs ev hr rs => to.to ρ' H' _ ev hr (rs.perm ix)⟩⟩
/-- how keywords are bound where no parameter has a default -/
structure KwB (K : PySem.W.Frag) (fd : FuncData) (ps ks : List Str) (n : Nat) (ix : List Nat) : Prop where
  to : ∀ (s : Shared) (us ws : List Value), K.In s.heap → us.length = n → ws.length = ks.length → BindsTo s fd ⟨us, ks.zip ws⟩ (ps.zip (us ++ permL ix ws))
theorem kwB {K : PySem.W.Frag} {x qual : Str} {params : Arguments} {body : List Stmt} {scope : Scope} {kws : List (Str × V)} {f : Addr} {fd : FuncData} {ps ks : List Str} {n : Nat} {ix : List Nat} (F : FunD K x qual params body scope [] kws f fd)
    (h : ∀ (kV doc pm : Value) (an : Option Addr) (cdv ct : Value) (us ws : List Value), us.length = n → ws.length = ks.length → bindArgs (PySem.W.fnOf x qual params body scope .none kV doc pm an cdv ct) ⟨us, ks.zip ws⟩ = pure (ps.zip (us ++ permL ix ws))) : KwB K fd ps ks n ix := by
  obtain ⟨oc, od, dV, kV, doc, pm, an, cdv, ct, osl, rfl, _, _, hD, _⟩ := F.ex
  rcases hD with ⟨_, rfl⟩ | ⟨e, _⟩
  · exact ⟨fun s us ws _ l1 l2 => .of_eq (h kV doc pm an cdv ct us ws l1 l2)⟩
  · exact absurd rfl e
theorem xCallKw {k : Nat} {f : Addr} {fd : FuncData} {ps ks : List Str} {ix : List Nat} {m : List T → VH → Res T} {x : Str} {p pos : Pos} {kws : List Keyword} {g : MA} (F : FnOk X.prog X.w X.K X.mg X.base CX0 k f fd ps (spM Y m)) (hr : Room k X.A) (hg : Gl X x) (hm : X.mg x = some (.ref f)) (kp : PySem.W.keepIn X.K (.ref f) = true)
    (hb : KwB X.K fd ps ks 0 ix) (ha : PK X kws (TMA Y g)) (hl : kws.length = ks.length := by rfl) (hall : (backToKw pos (keywordEach kws X.env)).all (·.1.isSome) = true := by rfl) (hks : (backToKw pos (keywordEach kws X.env)).filterMap (·.1) = ks := by rfl)
    (hdb : (x == ("__debug__" : Str)) = false := by decide) (hpl : ((backTo pos (starEach [] X.env)).any (·.1) || (backToKw pos (keywordEach kws X.env)).any (·.1.isNone)) = false := by rfl) (hn : ∀ σ H R, TMA Y g σ H R → TMA Y g σ H fun vs H' => vs.length = ks.length ∧ R vs H') :
    PE X (.Call (.Name x p) [] kws pos) (TM Y (eCall m (aPerm ix g))) := by
  constructor
  intro pins s σ H Q I q
  have vals := ha.run pos pins s σ H _ I (hn _ _ _ (tma_perm (tm_call (ct_sp (m := m) E0) q)))
  refine wpAny_Call_Name_kw (ld_glob I hg hm (PySem.W.callWith_KW0 (h₀ := X.base) I.mod.kin kp hall (thn vals ?_) hpl) hdb)
  rintro ws s1 ⟨zs, H1, J, r, nz, sp⟩
  rw [hks]
  have rp := Vals.perm r ix
  have bd := hb.to s1 [] ws J.kIn rfl (r.length.symm.trans nz)
  refine ⟨J.kIn, wpAny_call (codeAny_mono (F.run X.A X.stack s1 H1 _ _ (permL ix zs) Q E0 hr J.env0 bd rp sp) ?_)⟩
  intro res s2 z
  match res, z with
  | .ok (.ret u), z => exact J.after z
  | .error v, z => exact z.elim
/-- how many values an argument list gives -/
theorem tma_len {g : MA} {n : Nat} (hg : ∀ τ h ts h', g τ h = .ok ts h' → ts.length = n) : ∀ σ H R, TMA Y g σ H R → TMA Y g σ H fun vs H' => vs.length = n ∧ R vs H' := by
  rintro σ H R ⟨ρ, τ, h, ts, h', G, e, to⟩
  exact ⟨ρ, τ, h, ts, h', G, e, ⟨fun ρ' H' vs ev hr rs => ⟨by rw [rs.length]; exact hg τ h ts h' e, to.to ρ' H' vs ev hr rs⟩⟩⟩
theorem len_nil : ∀ (τ : TS_) (h : VH) (ts : List T) (h' : VH), aNil τ h = .ok ts h' → ts.length = 0 := by
  intro τ h ts h' e; cases e; rfl
theorem len_cons {f : ME} {g : MA} {n : Nat} (hg : ∀ (τ : TS_) (h : VH) (ts : List T) (h' : VH), g τ h = .ok ts h' → ts.length = n) : ∀ (τ : TS_) (h : VH) (ts : List T) (h' : VH), aCons f g τ h = .ok ts h' → ts.length = n + 1 := by
  intro τ h ts h' e
  unfold aCons at e
  cases e1 : f τ h with
  | bad => simp only [e1] at e; cases e
  | ok t h1 =>
    simp only [e1] at e
    cases e2 : g τ h1 with
    | bad => simp only [e2] at e; cases e
    | ok us h2 => simp only [e2] at e; cases e; simp [hg _ _ _ _ e2]
/-! ### D.get(k), D a dict of the module -/
def eGetK (kvs : List (Str × T)) (f : ME) : ME := fun τ h => match f τ h with
  | .ok (.str z) h1 => .ok ((kvs.lookup z).getD .non) h1
  | _ => .bad
theorem xGetK {b : Expr} {x : Str} {f : ME} {apos cpos p : Pos} {d : Addr} {kvs : List (Str × T)} (hK : X.K = Y.K) (D : KD Y X.w d kvs) (hg : Gl X x) (hm : X.mg x = some (.ref d)) (hb : PE X b (TM Y f)) (m : M1 X (.Name x p) "get" apos b cpos := by exact ⟨rfl, rfl, rfl, rfl⟩) (hd : (x == ("__debug__" : Str)) = false := by decide) :
    PE X (.Call (.Attribute (.Name x p) "get" apos) [b] [] cpos) (TM Y (eGetK kvs f)) := by
  constructor
  rintro pins s σ H Q I ⟨ρ, τ, h, u, h', G, e, to⟩
  obtain ⟨es, n, kd, _⟩ := D.kd
  rw [← hK] at kd
  unfold eGetK at e
  split at e
  case h_2 => cases e
  rename_i z h1 e1
  cases e
  have name := (pe_glob (pos := p) hg hm (v := .ref d) rfl hd).run pins s σ H (fun v H' => v = .ref d ∧ H' = H) I ⟨rfl, rfl⟩
  refine wpAny_Call_method m.base m.few m.line PySem.F.plainAttrs_dict PySem.F.slot_dict_get PySem.F.type_dict_get (thn name ?_)
  rintro u s1 ⟨v, H1, I1, ru, rfl, rfl⟩
  obtain rfl : u = Value.ref d := ru
  have mo := PySem.W.mapOf_K (prog := X.prog) (w := X.w) I1.kIn kd.at_ kd.lit
  refine ⟨mo.typeIs, fun c q => by cases q; exact ⟨_, I1.kIn _ _ kd.at_, rfl⟩, ?_⟩
  rw [m.trees]
  refine Calls.callWith_builtin rfl (Calls.evalArgs_plain (Calls.spliced_cons (thn (hb.run pins s1 σ H1 _ I1 ⟨ρ, τ, h, .str z, _, G, e1, ⟨fun ρ2 H2 v2 ev hr r => (⟨z, .ref d, ?_⟩ : ∃ z' d', v2 = V.str z' ∧ d' = V.ref d ∧ ∀ w, (∀ u', PySem.W.nsIn X.K d z' = some (some u') → RelV w u') → (PySem.W.nsIn X.K d z' = some none → w = .non) → Q w H2)⟩⟩) ?_)))
  · cases r
    refine ⟨rfl, rfl, fun w h1 h2 => to.to ρ2 H2 _ ev hr ?_⟩
    cases ek : kvs.lookup z with
    | none =>
      rw [h2 (by rw [hK]; exact D.miss z ek)]
      exact .non
    | some t =>
      obtain ⟨u', v', n1, n2, n3⟩ := D.val z t ek
      have n4 := h1 u' (by rw [hK]; exact n1)
      have : w = v' := RelV.inj n4 n2
      rw [this]
      exact n3 ρ2 H2
  · rintro iv s2 ⟨y, H2, I2, ry, z', d', rfl, rfl, fin⟩
    obtain ⟨t, rfl⟩ := ry
    refine Calls.spliced_nil ?_
    have mo := PySem.W.mapOf_K (prog := X.prog) (w := X.w) I2.kIn kd.at_ kd.lit
    refine call_meetsIn PySem.F.slot_dict_get mo.typeIs PySem.F.entry_dict_get (PySem.F.args_dict_get_2 _ _) (meets_dict_get (strKind X.prog X.w) d (strKind_is X.prog X.w z' t) kd.low) ⟨_, mo, ?_⟩
    have J := I2.tok (s2.toks + 1)
    cases ek : kvs.lookup z' with
    | none =>
      have e3 : PySem.W.nsIn X.K d z' = some none := by rw [hK]; exact D.miss z' ek
      rw [PySem.W.find_K kd.at_ e3]
      exact ⟨.non, H2, J, rfl, fin .non (fun u' q => by rw [e3] at q; cases q) fun _ => rfl⟩
    | some t' =>
      obtain ⟨u', v', n1, n2, n3⟩ := D.val z' t' ek
      have e3 : PySem.W.nsIn X.K d z' = some (some u') := by rw [hK]; exact n1
      rw [PySem.W.find_K kd.at_ e3]
      exact ⟨v', H2, J, n2, fin v' (fun u2 q => by rw [e3] at q; cases q; exact n2) fun q => by rw [e3] at q; cases q⟩
/-! ### list(range(..)) -/
def mRg1 (f : ME) : MA := fun τ h => match f τ h with
  | .ok (.int j) h1 => if -1000000000 ≤ j ∧ j ≤ 16777216 then .ok (rangeT 0 j.toNat) h1 else .bad
  | _ => .bad
def mRg2 (f g : ME) : MA := fun τ h => match f τ h with
  | .ok (.int i) h1 => (match g τ h1 with
    | .ok (.int j) h2 => if (-1000000000 ≤ i ∧ i ≤ 1000000000 ∧ -1000000000 ≤ j ∧ j ≤ 1000000000) ∧ (j - i).toNat ≤ 16777216 then .ok (rangeT i (j - i).toNat) h2 else .bad
    | _ => .bad)
  | _ => .bad
theorem rg_rps {ρ : Rh} {H : Hp} {a b : Int} : Rps Y ρ H (rangeT a (b - a).toNat) (rgV a b) := by
  unfold rangeT rgV
  generalize (List.range (b - a).toNat) = l
  induction l with
  | nil => exact .nil
  | cons x l ih => exact .cons (.int _) ih
theorem rg_size {a b : Int} (h : (b - a).toNat ≤ 16777216) : (rgV a b).length ≤ sizeLine := by rw [rgV_length, sizeLine_eq]; exact h
theorem xListRg1 {a : Expr} {f : ME} {p p2 pos pos2 : Pos} (hc : X.calm = true) (hg : Gl X "list") (hm : X.mg "list" = none) (hg2 : Gl X "range") (hm2 : X.mg "range" = none) (ha : PE X a (TM Y f)) (na : starEach [a] X.env = (false, eval a X.env) :: starEach [] X.env := by rfl)
    (nb : starEach [.Call (.Name "range" p2) [a] [] pos2] X.env = (false, eval (.Call (.Name "range" p2) [a] [] pos2) X.env) :: starEach [] X.env := by rfl) : PE X (.Call (.Name "list" p) [.Call (.Name "range" p2) [a] [] pos2] [] pos) (TMF Y (mRg1 f)) :=
  pe_imp (pe_listRg hc hg hm (prg_1 hg2 hm2 ha na) nb) fun σ H Q q => by
    obtain ⟨ρ, τ, h, u, h', G, e, to⟩ := q
    unfold mRg1 at e
    split at e
    · rename_i j h1 e1
      split at e
      · rename_i hz
        cases e
        refine ⟨ρ, τ, h, _, _, G, e1, ⟨fun ρ1 H1 v ev hr r => ?_⟩⟩
        cases r
        have sz : (j - 0).toNat ≤ 16777216 := by omega
        refine ⟨j, rfl, ⟨by omega, by omega, by omega, by omega, by omega⟩, fun D hD => ?_⟩
        have rs : Rps Y ρ1 H1 (rangeT 0 j.toNat) (rgV 0 j) := by have z := rg_rps (Y := Y) (ρ := ρ1) (H := H1) (a := 0) (b := j); rw [Int.sub_zero] at z; exact z
        obtain ⟨n1, n2, n3, n4⟩ := newL hr rs (rg_size sz) hD
        exact to ρ1 _ D _ (ev.trans (Ev.new hD)) n1 (ev.fresh hD) n2 n3 n4
      · cases e
    · cases e
theorem xListRg2 {a b : Expr} {f g : ME} {p p2 pos pos2 : Pos} (hc : X.calm = true) (hg : Gl X "list") (hm : X.mg "list" = none) (hg2 : Gl X "range") (hm2 : X.mg "range" = none) (ha : PE X a (TM Y f)) (hb : PE X b (TM Y g)) (na : starEach [a, b] X.env = (false, eval a X.env) :: starEach [b] X.env := by rfl)
    (nb : starEach [b] X.env = (false, eval b X.env) :: starEach [] X.env := by rfl) (hp : (backTo pos2 (starEach [b] X.env)).any (·.1) = false := by rfl)
    (nc : starEach [.Call (.Name "range" p2) [a, b] [] pos2] X.env = (false, eval (.Call (.Name "range" p2) [a, b] [] pos2) X.env) :: starEach [] X.env := by rfl) : PE X (.Call (.Name "list" p) [.Call (.Name "range" p2) [a, b] [] pos2] [] pos) (TMF Y (mRg2 f g)) :=
  pe_imp (pe_listRg hc hg hm (prg_2 hg2 hm2 ha hb na nb hp) nc) fun σ H Q q => by
    obtain ⟨ρ, τ, h, u, h', G, e, to⟩ := q
    unfold mRg2 at e
    split at e
    · rename_i i h1 e1
      split at e
      · rename_i j h2 e2
        split at e
        · rename_i hz
          cases e
          refine ⟨ρ, τ, h, _, _, G, e1, ⟨fun ρ1 H1 v ev hr r => ⟨ρ1, τ, h1, _, _, G.ev ev hr, e2, ⟨fun ρ2 H2 w ev2 hr2 r2 => ?_⟩⟩⟩⟩
          cases r
          cases r2
          refine ⟨i, j, rfl, rfl, ⟨by omega, by omega, by omega, by omega, by omega⟩, fun D hD => ?_⟩
          obtain ⟨n1, n2, n3, n4⟩ := newL hr2 (rg_rps (a := i) (b := j)) (rg_size hz.2) hD
          exact to ρ2 _ D _ ((ev.trans ev2).trans (Ev.new hD)) n1 ((ev.trans ev2).fresh hD) n2 n3 n4
        · cases e
      · cases e
    · cases e
end
end TL

set_option Elab.async false
set_option linter.all false
set_option maxRecDepth 100000
set_option maxHeartbeats 4000000
namespace TL
open PySem PySem.Spec L2
section
variable {X : Cx} {Y : Wd}
/-! ### a text so many times -/
def timesS (z : Str) (k : Nat) : Str := ⟨(List.replicate k z.cps).foldl (· ++ ·) #[]⟩
def rMulS : R2 := fun x y H Q => ∃ (z : Str) (k : Int), x = .str z ∧ y = .int k ∧ 2 ≤ k ∧ k ≤ 1000 ∧ 0 < z.length ∧ z.length * k.toNat ≤ 1000000 ∧ (timesS z k.toNat).length ≤ 1000000 ∧ Q (.str (timesS z k.toNat)) H
theorem op_mulS : OpR X (binaryOp .Mult) rMulS := by
  rintro pins s σ H x y v u Q I rx ry ⟨z, k, rfl, rfl, k2, k3, z0, zk, sz, q⟩
  obtain ⟨t, rfl⟩ := rx
  obtain ⟨t', rfl⟩ := ry
  have big : ¬ k < 1 := by omega
  have f1 : (k == 1 || z.length == 0) = false := by
    rw [Bool.or_eq_false_iff]
    exact ⟨beq_eq_false_iff_ne.mpr (by omega), beq_eq_false_iff_ne.mpr (by omega)⟩
  refine PySem.P.mul_str ?_ (fun _ _ => ?_) (fun _ _ => ?_) ?_
  · rw [decide_eq_false (by omega), decide_eq_false (by omega)]
    rfl
  · have h1 : (z.length : Int) ≤ 1000000 := by
      have : z.length * 1 ≤ z.length * k.toNat := Nat.mul_le_mul_left _ (by omega)
      omega
    have h2 : (1000000 : Int) ≤ (2 ^ 63 - 1) / k := by
      rw [Int.le_ediv_iff_mul_le (by omega)]
      omega
    omega
  · exact decide_eq_false (by rw [sizeLine_eq]; omega)
  · rw [if_neg big, if_neg (by rw [f1]; exact Bool.false_ne_true)]
    exact ⟨by rw [sizeLine_eq]; exact Nat.le_trans sz (by omega), .str (timesS z k.toNat), H, I.tok _, ⟨_, rfl⟩, q⟩
def bMulS (a b : T) (h : VH) : Res T := match a, b with
  | .str z, .int k => if ((2 ≤ k ∧ k ≤ 1000) ∧ 0 < z.length) ∧ (z.length * k.toNat ≤ 1000000 ∧ (timesS z k.toNat).length ≤ 1000000) then .ok (.str (timesS z k.toNat)) h else .bad
  | _, _ => .bad
theorem ot_mulS : OT Y rMulS bMulS := fun ρ H t1 t2 v1 v2 h t h' Q r1 r2 hr e to => by
  unfold bMulS at e
  split at e
  · split at e
    · rename_i z k c
      cases e
      cases r1
      cases r2
      exact ⟨z, k, rfl, rfl, c.1.1.1, c.1.1.2, c.1.2, c.2.1, c.2.2, to.to ρ H _ .refl hr (.str c.2.2)⟩
    · cases e
  · cases e
end
end TL

set_option Elab.async false
set_option linter.all false
set_option maxRecDepth 100000
set_option maxHeartbeats 4000000
namespace TL
open PySem PySem.Spec L2
/-! ### how long a repr is at most -/
mutual
def wide : PyData → Nat
  | .none => 4
  | .bool _ => 5
  | .int i => i.natAbs.log2 + 2
  | .str x => (reprText x).length
  | .list xs => wides xs + 2
  | .tuple xs => wides xs + 3
  | .dict _ => 0
def wides : List PyData → Nat
  | [] => 0
  | x :: xs => wide x + 2 + wides xs
end
def lens (ts : List Str) : Nat := (ts.map fun t => t.length + 2).sum
theorem textFrom_le : ∀ (ts : List Str) (k : Nat) (acc : Str), (textFrom k acc ts).length ≤ acc.length + lens ts
  | [], k, acc => by simp [textFrom, lens]
  | t :: ts, k, acc => by
    have ih := textFrom_le ts (k + 1) (acc ++ (if k > 0 then ", " else "" : String) ++ t)
    have e : (acc ++ (if k > 0 then ", " else "" : String) ++ t).length ≤ acc.length + 2 + t.length := by
      rw [len_app, len_app]
      have : (Str.ofString (if k > 0 then ", " else "")).length ≤ 2 := by split <;> decide
      omega
    have l : lens (t :: ts) = t.length + 2 + lens ts := by simp [lens]
    rw [l]
    show (textFrom (k + 1) _ ts).length ≤ _
    omega
theorem listText_le (ts : List Str) : (listText ts).length ≤ lens ts + 2 := by
  unfold listText
  rw [len_app]
  have h := textFrom_le ts 0 "["
  have a : (Str.ofString "[").length = 1 := by decide
  have b : (Str.ofString "]").length = 1 := by decide
  omega
theorem join_le : ∀ ts : List Str, (Str.join ", " ts).length ≤ lens ts
  | [] => by decide
  | [x] => by simp [lens, Str.join]
  | x :: y :: r => by
    have ih := join_le (y :: r)
    have l : lens (x :: y :: r) = x.length + 2 + lens (y :: r) := by simp [lens]
    have e : Str.join ", " (x :: y :: r) = x ++ ", " ++ Str.join ", " (y :: r) := rfl
    rw [l, e, len_app, len_app]
    have : ((", " : String) : Str).length = 2 := by decide
    omega
theorem tupleText_le (ts : List Str) : (tupleText ts).length ≤ lens ts + 3 := by
  unfold tupleText
  rw [len_app, len_app]
  have h := join_le ts
  have a : (Str.ofString "(").length = 1 := by decide
  have b : (Str.ofString (if (ts.length == 1) = true then ",)" else ")")).length ≤ 2 := by split <;> decide
  omega
mutual
theorem shown_le : ∀ d : PyData, d.hasDict = false → d.shown.length ≤ wide d
  | .none, _ => by decide
  | .bool true, _ => by decide
  | .bool false, _ => by decide
  | .int i, _ => by
    have := int_text_length_le (a := i) (k := i.natAbs.log2 + 1) (by omega) (by omega)
    simp only [PyData.shown, wide]
    rw [ofString_length]
    omega
  | .str x, _ => by simp only [PyData.shown, wide]; exact Nat.le_refl _
  | .list xs, h => by
    have := shownAll_le xs (by simpa [PyData.hasDict] using h)
    have := listText_le (PyData.shownAll xs)
    simp only [PyData.shown, wide]
    omega
  | .tuple xs, h => by
    have := shownAll_le xs (by simpa [PyData.hasDict] using h)
    have := tupleText_le (PyData.shownAll xs)
    simp only [PyData.shown, wide]
    omega
  | .dict kvs, h => by simp [PyData.hasDict] at h
theorem shownAll_le : ∀ ds : List PyData, PyData.hasDictAll ds = false → lens (PyData.shownAll ds) ≤ wides ds
  | [], _ => by simp [PyData.shownAll, lens, wides]
  | d :: ds, h => by
    simp only [PyData.hasDictAll, Bool.or_eq_false_iff] at h
    have a := shown_le d h.1
    have b := shownAll_le ds h.2
    have l : lens (PyData.shownAll (d :: ds)) = d.shown.length + 2 + lens (PyData.shownAll ds) := by simp [lens, PyData.shownAll]
    rw [l]
    simp only [wides]
    omega
end
theorem repr_ok {t : T} {h : VH} {d : PyData} (e : T.dat h 10 t = some d) (s : d.showable = true) (n : d.hasDict = false) (w : wide d ≤ 1000000) : fRepr [t] h = .ok (.str d.shown) h := by
  have := shown_le d n
  simp only [fRepr, e, s, n, Bool.not_false, Bool.and_true, Bool.true_and]
  rw [if_pos (decide_eq_true (by omega))]
theorem eq_strs (x y : Str) (h : VH) : TL.bEq (.str x) (.str y) h = .ok (.bl (x == y)) h := by
  unfold TL.bEq bEqG
  simp only [dat_str, PyData.eqv]
theorem ne_strs (x y : Str) (h : VH) : bNe (.str x) (.str y) h = .ok (.bl (!(x == y))) h := by
  unfold bNe bEqG
  simp only [dat_str, PyData.eqv]
end TL

set_option Elab.async false
set_option linter.all false
set_option maxRecDepth 100000
set_option maxHeartbeats 4000000
namespace TL
open PySem PySem.Spec L2
section
variable {X : Cx} {Y : Wd}
/-! ### k in d, a dict of the def's own -/
def bInDG (neg : Bool) (a b : T) (h : VH) : Res T := match b with
  | .ref n => (match h[n]?, keyT a with
    | some (.dct kvs), some k => .ok (.bl (neg != (getT kvs k).isSome)) h
    | _, _ => .bad)
  | _ => .bad
def bInD := bInDG false
def bNinD := bInDG true
theorem ot_inD (neg : Bool) : OT Y (fun y x H Q => ∃ a o, x = .ref a ∧ DGet H a y o ∧ Q (.bl (neg != o.isSome)) H) (bInDG neg) := by
  intro ρ H t1 t2 v1 v2 h t h' Q r1 r2 hr e to
  unfold bInDG at e
  split at e
  · rename_i n
    split at e
    · rename_i kvs k en ek
      cases e
      cases r2 with
      | @ref _ a ha =>
        obtain ⟨vk, ea, d⟩ := or_dct (hr.at_ n _ a en ha)
        obtain rfl := keyT_ok r1 ek
        refine ⟨a, valV vk k, rfl, DGet.k ea, ?_⟩
        have e : (getT kvs k).isSome = (valV vk k).isSome := by
          rcases d.get k with ⟨z, z2⟩ | ⟨t1, v, z, ev, rv⟩
          · rw [z, z2]; rfl
          · rw [z, ev]; rfl
        rw [← e]
        exact to.to ρ H _ .refl hr (.bl _)
    · cases e
  · cases e
theorem xDIn {o i : Expr} {pos : Pos} {f g : ME} (hu : X.A.units + 1 < cLine) (hi : PE X i (TM Y f)) (ho : PE X o (TM Y g)) (hm : behindInMarks .In o = false := by first | exact nobehind _ (by decide) (by decide) | rfl) : PE X (.Compare i [.In] [o] pos) (TM Y (eOp bInD f g)) :=
  pe_imp (pe_cmp (pc_din hu hi ho) hm) fun σ H Q q => tm_op (ot_inD false) q |> fun z => by
    simp only [Bool.false_bne] at z
    exact z
theorem xDNin {o i : Expr} {pos : Pos} {f g : ME} (hu : X.A.units + 1 < cLine) (hi : PE X i (TM Y f)) (ho : PE X o (TM Y g)) (hm : behindInMarks .NotIn o = false := by first | exact nobehind _ (by decide) (by decide) | rfl) : PE X (.Compare i [.NotIn] [o] pos) (TM Y (eOp bNinD f g)) :=
  pe_imp (pe_cmp (pc_dnotin hu hi ho) hm) fun σ H Q q => tm_op (ot_inD true) q |> fun z => by
    simp only [Bool.true_bne] at z
    exact z
end
end TL

set_option Elab.async false
set_option linter.all false
set_option maxRecDepth 100000
set_option maxHeartbeats 4000000
namespace KG
/-! ### gaps along a direction -/
def Gap (S : Int → Int → Prop) (dx dy x y : Int) (m : Nat) : Prop := 0 < m ∧ S x y ∧ S (x + m * dx) (y + m * dy) ∧ ∀ j : Nat, 0 < j → j < m → ¬ S (x + j * dx) (y + j * dy)
def IsL (S : Int → Int → Prop) (dx dy : Int) : Option Nat → Prop
  | none => ∃ x y, ∀ k : Int, ¬ S (x + k * dx) (y + k * dy)
  | some M => (∀ x y, ∃ k : Int, S (x + k * dx) (y + k * dy)) ∧ (∃ x y, Gap S dx dy x y M) ∧ ∀ x y m, Gap S dx dy x y m → m ≤ M
theorem IsL.uniq {S : Int → Int → Prop} {dx dy : Int} {r r' : Option Nat} (h : IsL S dx dy r) (h' : IsL S dx dy r') : r = r' := by
  cases r with
  | none =>
    cases r' with
    | none => rfl
    | some M =>
      obtain ⟨x, y, n⟩ := h
      obtain ⟨k, hk⟩ := h'.1 x y
      exact (n k hk).elim
  | some M =>
    cases r' with
    | none =>
      obtain ⟨x, y, n⟩ := h'
      obtain ⟨k, hk⟩ := h.1 x y
      exact (n k hk).elim
    | some M' =>
      obtain ⟨_, ⟨x, y, g⟩, u⟩ := h
      obtain ⟨_, ⟨x', y', g'⟩, u'⟩ := h'
      have a := u' x y M g
      have b := u x' y' M' g'
      have : M = M' := by omega
      rw [this]
/-- the same, seen through a change of places -/
theorem IsL.map {S S' : Int → Int → Prop} {dx dy dx' dy' : Int} (p q : Int → Int → Int) (hS : ∀ x y, S' x y ↔ S (p x y) (q x y)) (h1 : ∀ x y k, p (x + k * dx') (y + k * dy') = p x y + k * dx) (h2 : ∀ x y k, q (x + k * dx') (y + k * dy') = q x y + k * dy)
    (sur : ∀ u v, ∃ x y, p x y = u ∧ q x y = v) {r : Option Nat} (h : IsL S' dx' dy' r) : IsL S dx dy r := by
  have gp : ∀ x y m, Gap S' dx' dy' x y m ↔ Gap S dx dy (p x y) (q x y) m := fun x y m => by
    unfold Gap
    simp only [hS, h1, h2]
  cases r with
  | none =>
    obtain ⟨x, y, n⟩ := h
    refine ⟨p x y, q x y, fun k => ?_⟩
    rw [← h1, ← h2, ← hS]
    exact n k
  | some M =>
    obtain ⟨a, ⟨x, y, g⟩, u⟩ := h
    refine ⟨fun s t => ?_, ⟨p x y, q x y, (gp x y M).mp g⟩, fun s t m hg => ?_⟩
    · obtain ⟨x, y, rfl, rfl⟩ := sur s t
      obtain ⟨k, hk⟩ := a x y
      exact ⟨k, by rw [← h1, ← h2, ← hS]; exact hk⟩
    · obtain ⟨x, y, rfl, rfl⟩ := sur s t
      exact u x y m ((gp x y m).mpr hg)
/-- the other way along -/
theorem Gap.rev {S : Int → Int → Prop} {dx dy x y : Int} {m : Nat} (g : Gap S dx dy x y m) : Gap S (-dx) (-dy) (x + m * dx) (y + m * dy) m := by
  obtain ⟨h0, h1, h2, h3⟩ := g
  have e : ∀ (u v : Int) (j : Nat), u + m * v + j * -v = u + ((m : Int) - j) * v := fun u v j => by
    rw [Int.sub_mul, Int.mul_neg]; omega
  refine ⟨h0, h2, ?_, fun j j0 j1 => ?_⟩
  · rw [e, e, Int.sub_self, Int.zero_mul, Int.zero_mul, Int.add_zero, Int.add_zero]
    exact h1
  · rw [e, e]
    have : (m : Int) - j = ((m - j : Nat) : Int) := by omega
    rw [this]
    exact h3 (m - j) (by omega) (by omega)
theorem IsL.rev {S : Int → Int → Prop} {dx dy : Int} {r : Option Nat} (h : IsL S dx dy r) : IsL S (-dx) (-dy) r := by
  have e : ∀ (u v k : Int), u + k * -v = u + (-k) * v := fun u v k => by rw [Int.mul_neg, Int.neg_mul]
  cases r with
  | none =>
    obtain ⟨x, y, n⟩ := h
    exact ⟨x, y, fun k => by rw [e, e]; exact n (-k)⟩
  | some M =>
    obtain ⟨a, ⟨x, y, g⟩, u⟩ := h
    refine ⟨fun s t => ?_, ⟨_, _, g.rev⟩, fun s t m hg => ?_⟩
    · obtain ⟨k, hk⟩ := a s t
      exact ⟨-k, by rw [e, e, Int.neg_neg]; exact hk⟩
    · have g' := hg.rev
      rw [Int.neg_neg, Int.neg_neg] at g'
      exact u _ _ m g'
/-! ### what stands next in a filtered row of numbers -/
def nexts : List Nat → Nat → List (Nat × Nat)
  | [], _ => []
  | [a], e => [(a, e)]
  | a :: b :: r, e => (a, b) :: nexts (b :: r) e
theorem nexts_zip (e : Nat) : ∀ l : List Nat, List.zip l (l.drop 1 ++ [e]) = nexts l e
  | [] => rfl
  | [a] => rfl
  | a :: b :: r => by
    have := nexts_zip e (b :: r)
    simp only [List.drop_succ_cons, List.drop_zero, List.cons_append, List.zip_cons_cons, nexts] at this ⊢
    rw [this]
theorem head_low {P : Nat → Bool} : ∀ (m s a : Nat) (r : List Nat), (List.range' s m).filter P = a :: r → s ≤ a ∧ a < s + m ∧ P a = true ∧ ∀ j, s ≤ j → j < a → P j = false
  | 0, s, a, r, h => by simp at h
  | m + 1, s, a, r, h => by
    rw [List.range'_succ, List.filter_cons] at h
    cases hp : P s with
    | true =>
      rw [if_pos hp] at h
      injection h with h1 h2
      subst h1
      exact ⟨Nat.le_refl _, by omega, hp, fun j a b => by omega⟩
    | false =>
      rw [if_neg (by rw [hp]; exact Bool.false_ne_true)] at h
      obtain ⟨h1, h2, h3, h4⟩ := head_low m (s + 1) a r h
      refine ⟨by omega, by omega, h3, fun j j1 j2 => ?_⟩
      by_cases q : j = s
      · rw [q]; exact hp
      · exact h4 j (by omega) j2
theorem none_low {P : Nat → Bool} {m s : Nat} (h : (List.range' s m).filter P = []) {j : Nat} (h1 : s ≤ j) (h2 : j < s + m) : P j = false := by
  rw [List.filter_eq_nil_iff] at h
  have := h j (by rw [List.mem_range'_1]; omega)
  simpa using this
theorem nexts_ok {P : Nat → Bool} (e : Nat) (he : P e = true) : ∀ (m s : Nat), s + m ≤ e → (∀ j, s + m ≤ j → j < e → P j = false) → ∀ a b, (a, b) ∈ nexts ((List.range' s m).filter P) e → a < b ∧ P a = true ∧ P b = true ∧ ∀ j, a < j → j < b → P j = false
  | 0, s, _, _, a, b, h => by simp [nexts] at h
  | m + 1, s, hle, hno, a, b, h => by
    have ih := nexts_ok e he m (s + 1) (by omega) (fun j j1 j2 => hno j (by omega) j2)
    rw [List.range'_succ, List.filter_cons] at h
    cases hp : P s with
    | false =>
      rw [if_neg (by rw [hp]; exact Bool.false_ne_true)] at h
      exact ih a b h
    | true =>
      rw [if_pos hp] at h
      cases q : (List.range' (s + 1) m).filter P with
      | nil =>
        rw [q] at h
        simp only [nexts, List.mem_singleton, Prod.mk.injEq] at h
        obtain ⟨rfl, rfl⟩ := h
        refine ⟨by omega, hp, he, fun j j1 j2 => ?_⟩
        by_cases z : j < a + 1 + m
        · exact none_low q (by omega) z
        · exact hno j (by omega) j2
      | cons c r =>
        rw [q] at h
        simp only [nexts, List.mem_cons, Prod.mk.injEq] at h
        rcases h with ⟨rfl, rfl⟩ | h
        · obtain ⟨h1, h2, h3, h4⟩ := head_low m (a + 1) b r q
          exact ⟨by omega, hp, h3, fun j j1 j2 => h4 j (by omega) j2⟩
        · exact ih a b (by rw [q]; exact h)
theorem nexts_head {l : List Nat} {a e : Nat} {r : List Nat} (h : l = a :: r) : ∃ b, (a, b) ∈ nexts l e := by
  subst h
  cases r with
  | nil => exact ⟨e, by simp [nexts]⟩
  | cons c r => exact ⟨c, by simp [nexts]⟩
end KG

set_option Elab.async false
set_option linter.all false
set_option maxRecDepth 100000
set_option maxHeartbeats 4000000
namespace K33
open PySem L2 TL
def kv_AHEAD : List (Str × T) := [("e", (.str "6")), ("n", (.str "8")), ("a", (.str "9")), ("b", (.str "7"))]
def kv_SHIFTS : List (Str × T) := [("6", (.tup [(.int (1)), (.int (0))])), ("4", (.tup [(.int (-1)), (.int (0))])), ("8", (.tup [(.int (0)), (.int (1))])), ("2", (.tup [(.int (0)), (.int (-1))])), ("9", (.tup [(.int (1)), (.int (1))])), ("1", (.tup [(.int (-1)), (.int (-1))])), ("7", (.tup [(.int (-1)), (.int (1))])), ("3", (.tup [(.int (1)), (.int (-1))]))]
def s_figure_at : MS := (sSeq (sSet 3 (eOp bIx (eFld 2 1 (eVar 0)) (eOp bMod (eVar 2) (eCall fLen (aCons (eFld 2 1 (eVar 0)) aNil)))))
  (sRet (eOp bIx (eVar 3) (eOp bMod (eVar 1) (eCall fLen (aCons (eVar 3) aNil))))))
def m_figure_at : List T → VH → Res T := defM 4 3 s_figure_at

def s_first_wrong : MS := (sSeq (sFor (iEnumM (aCons (eFld 2 1 (eVar 0)) aNil)) (mgTup 2 (mgsCons (mgName 1) (mgsCons (mgName 2) mgsNil))) (sFor (iEnumSM (aCons (eVar 2) aNil)) (mgTup 2 (mgsCons (mgName 3) (mgsCons (mgName 4) mgsNil))) (sIf (bTest (eOp bNe (eVar 4) (eK (.str "0")))) (sSeq (sSet 5 (eIxK kv_SHIFTS (eVar 4)))
  (sIf (bTest (eOp bNe (eOp bAdd (eCall fInt (aCons (eCall m_figure_at (aCons (eVar 0) (aCons (eOp bAdd (eVar 3) (eOp bIx (eVar 5) (eK (.int 0)))) (aCons (eOp bAdd (eVar 1) (eOp bIx (eVar 5) (eK (.int 1)))) aNil)))) aNil)) (eCall fInt (aCons (eVar 4) aNil))) (eK (.int 10)))) (sRet (eTup (aCons (eVar 3) (aCons (eVar 1) aNil)))) sNil)) sNil)))
  (sRet (eK .non)))
def m_first_wrong : List T → VH → Res T := defM 6 1 s_first_wrong

def s_rows_in : MS := (sSeq (sSet 1 (eIf (bTest (eIsi (.b "str") (eVar 0))) (eMt "str" mSplit (eVar 0) (aCons (eK (.str "/")) aNil)) (eL (aLim aNil))))
  (sSeq (sIf (bOr (bNot (bTest (eChain bLe bLe (eK (.int 1)) (eCall fLen (aCons (eVar 1) aNil)) (eK (.int 12))))) (bNot (bTest (eChain bLe bLe (eK (.int 1)) (eCall fLen (aCons (eOp bIx (eVar 1) (eK (.int 0))) aNil)) (eK (.int 12)))))) (sRet (eK .non)) sNil)
  (sSeq (sIf (bNot (bTest (eCall fAll (aCons (eL (mLc (iSeqC (eVar 1)) [2] (mgName 2) bYes (eAnd (eOp bEq (eCall fLen (aCons (eVar 2) aNil)) (eCall fLen (aCons (eOp bIx (eVar 1) (eK (.int 0))) aNil))) (eCall fAll (aCons (eL (mLc (iSeqC (eVar 2)) [3] (mgName 3) bYes (eOp bIn (eVar 3) (eK (.str "012346789"))))) aNil))))) aNil)))) (sRet (eK .non)) sNil)
  (sRet (eRev (eVar 1))))))
def m_rows_in : List T → VH → Res T := defM 4 1 s_rows_in

def s_Pattern___init__ : MS := (sSeq (sSet 2 (eCall m_rows_in (aCons (eVar 1) aNil)))
  (sSeq (sIf (bTest (eOp bIs (eVar 2) (eK .non))) sBad sNil)
  (sSeq (sAsg (eTup (aCons (eVar 1) (aCons (eVar 2) aNil))) (mgTup 2 (mgsCons (mgFld 2 0 (eVar 0)) (mgsCons (mgFld 2 1 (eVar 0)) mgsNil))))
  (sSeq (sSet 3 (eCall m_first_wrong (aCons (eVar 0) aNil)))
  (sIf (bTest (eOp bIsn (eVar 3) (eK .non))) sBad sNil)))))
def m_Pattern___init__ : List T → VH → Res T := defM 4 2 s_Pattern___init__

def s_law_at : MS := (sRet (eOp bIx (eOp bIx (eVar 0) (eOp bMod (eCall fInt (aCons (eVar 2) aNil)) (eCall fLen (aCons (eVar 0) aNil)))) (eOp bMod (eCall fInt (aCons (eVar 1) aNil)) (eCall fLen (aCons (eOp bIx (eVar 0) (eK (.int 0))) aNil)))))
def m_law_at : List T → VH → Res T := defM 3 3 s_law_at

def s_law_begun : MS := (sSeq (sAsg (eTup (aCons (eCall fLen (aCons (eOp bIx (eVar 0) (eK (.int 0))) aNil)) (aCons (eCall fLen (aCons (eVar 0) aNil)) aNil))) (mgTup 2 (mgsCons (mgName 3) (mgsCons (mgName 4) mgsNil))))
  (sRet (eL (mLc (iRange1 (aCons (eVar 4) aNil)) [5] (mgName 5) bYes (eL (mLc (iRange1 (aCons (eVar 3) aNil)) [6] (mgName 6) bYes (eCall m_law_at (aCons (eVar 0) (aCons (eOp bAdd (eVar 1) (eVar 6)) (aCons (eOp bAdd (eVar 2) (eVar 5)) aNil))))))))))
def m_law_begun : List T → VH → Res T := defM 7 3 s_law_begun

def s_law_roll : MS := (sSeq (sAsg (eOp bAdd (eOp bIx (eVar 0) (eK (.int 2))) (eK (.int 1))) (mgSub bSetL (eVar 0) (eK (.int 2))))
  (sSeq (sIf (bTest (eOp bGt (eOp bIx (eVar 0) (eK (.int 0))) (eK (.int 0)))) (sSeq (sAsg (eCall fDivmod (aCons (eOp bIx (eVar 0) (eK (.int 0))) (aCons (eVar 1) aNil))) (mgTup 2 (mgsCons (mgSub bSetL (eVar 0) (eK (.int 0))) (mgsCons (mgName 2) mgsNil))))
  (sRet (eVar 2))) sNil)
  (sSeq (sSet 3 (eCall fInt (aCons (eOp bIx (eVar 0) (eK (.int 1))) aNil)))
  (sSeq (sAsg (eOp bMod (eCall fInt (aCons (eOp bAdd (eOp bMul (eVar 3) (eOp bAdd (eVar 3) (eK (.int 50021)))) (eOp bMul (eK (.int 91229)) (eOp bIx (eVar 0) (eK (.int 2))))) aNil)) (eK (.int 2147483543))) (mgSub bSetL (eVar 0) (eK (.int 1))))
  (sRet (eOp bMod (eCall fInt (aCons (eOp bFdv (eOp bIx (eVar 0) (eK (.int 1))) (eK (.int 128))) aNil)) (eVar 1)))))))
def m_law_roll : List T → VH → Res T := defM 4 2 s_law_roll

def s_law_pick : MS := (sRet (eOp bIx (eVar 1) (eCall m_law_roll (aCons (eVar 0) (aCons (eCall fLen (aCons (eVar 1) aNil)) aNil)))))
def m_law_pick : List T → VH → Res T := defM 2 2 s_law_pick

def s_law_shift : MS := (sRet (eOp bIx (eL (aLim (aCons (eTup (aCons (eK (.int 0)) (aCons (eK (.int 0)) aNil))) (aCons (eTup (aCons (eNeg (eK (.int 1))) (aCons (eNeg (eK (.int 1))) aNil))) (aCons (eTup (aCons (eK (.int 0)) (aCons (eNeg (eK (.int 1))) aNil))) (aCons (eTup (aCons (eK (.int 1)) (aCons (eNeg (eK (.int 1))) aNil))) (aCons (eTup (aCons (eNeg (eK (.int 1))) (aCons (eK (.int 0)) aNil))) (aCons (eTup (aCons (eK (.int 0)) (aCons (eK (.int 0)) aNil))) (aCons (eTup (aCons (eK (.int 1)) (aCons (eK (.int 0)) aNil))) (aCons (eTup (aCons (eNeg (eK (.int 1))) (aCons (eK (.int 1)) aNil))) (aCons (eTup (aCons (eK (.int 0)) (aCons (eK (.int 1)) aNil))) (aCons (eTup (aCons (eK (.int 1)) (aCons (eK (.int 1)) aNil))) aNil)))))))))))) (eVar 0)))
def m_law_shift : List T → VH → Res T := defM 1 1 s_law_shift

def s_law_grid : MS := (sSeq (sAsg (eTup (aCons (eOp bAdd (eK (.int 1)) (eCall m_law_roll (aCons (eVar 0) (aCons (eVar 1) aNil)))) (aCons (eOp bAdd (eK (.int 1)) (eCall m_law_roll (aCons (eVar 0) (aCons (eVar 1) aNil)))) aNil))) (mgTup 2 (mgsCons (mgName 2) (mgsCons (mgName 3) mgsNil))))
  (sSeq (sSet 4 (eL (mLc (iRange1 (aCons (eVar 3) aNil)) [5] (mgName 5) bYes (eH (mMul (eL (aLim (aCons (eK (.int 0)) aNil))) (eVar 2))))))
  (sSeq (sFor (iRange1 (aCons (eOp bAdd (eK (.int 2)) (eOp bMul (eVar 2) (eVar 3))) aNil)) (mgName 6) (sSeq (sPar3 7 8 9 (aCons (eCall m_law_roll (aCons (eVar 0) (aCons (eVar 2) aNil))) (aCons (eCall m_law_roll (aCons (eVar 0) (aCons (eVar 3) aNil))) (aCons (eCall m_law_pick (aCons (eVar 0) (aCons (eL (aLim (aCons (eK (.int 6)) (aCons (eK (.int 6)) (aCons (eK (.int 8)) (aCons (eK (.int 9)) (aCons (eK (.int 7)) aNil))))))) aNil))) aNil))))
  (sSeq (sSet 10 (eCall m_law_shift (aCons (eVar 9) aNil)))
  (sSeq (sSet 11 (eTup (aCons (eOp bMod (eCall fInt (aCons (eOp bAdd (eVar 7) (eOp bIx (eVar 10) (eK (.int 0)))) aNil)) (eVar 2)) (aCons (eOp bMod (eCall fInt (aCons (eOp bAdd (eVar 8) (eOp bIx (eVar 10) (eK (.int 1)))) aNil)) (eVar 3)) aNil))))
  (sIf (bAnd (bTest (eOp bNe (eVar 11) (eTup (aCons (eVar 7) (aCons (eVar 8) aNil))))) (bAnd (bTest (eOp bEq (eOp bIx (eOp bIx (eVar 4) (eVar 8)) (eVar 7)) (eK (.int 0)))) (bTest (eOp bEq (eOp bIx (eOp bIx (eVar 4) (eOp bIx (eVar 11) (eK (.int 1)))) (eOp bIx (eVar 11) (eK (.int 0)))) (eK (.int 0)))))) (sSeq (sAsg (eVar 9) (mgSub bSetL (eOp bIx (eVar 4) (eVar 8)) (eVar 7)))
  (sAsg (eOp bSub (eK (.int 10)) (eVar 9)) (mgSub bSetL (eOp bIx (eVar 4) (eOp bIx (eVar 11) (eK (.int 1)))) (eOp bIx (eVar 11) (eK (.int 0)))))) sNil)))))
  (sRet (eVar 4)))))
def m_law_grid : List T → VH → Res T := cutM (defM 12 2 s_law_grid)

def s_law_mirrored : MS := (sSeq (sSet 1 (eL (aLim (aCons (eK (.int 0)) (aCons (eK (.int 3)) (aCons (eK (.int 2)) (aCons (eK (.int 1)) (aCons (eK (.int 6)) (aCons (eK (.int 5)) (aCons (eK (.int 4)) (aCons (eK (.int 9)) (aCons (eK (.int 8)) (aCons (eK (.int 7)) aNil)))))))))))))
  (sRet (eL (mLc (iSeqC (eVar 0)) [2] (mgName 2) bYes (eL (mLc (iSeqC (eRev (eVar 2))) [3] (mgName 3) bYes (eOp bIx (eVar 1) (eVar 3))))))))
def m_law_mirrored : List T → VH → Res T := defM 4 1 s_law_mirrored

def s_law_spelled : MS := (sRet (eMt "str" mJoin (eK (.str "/")) (aCons (eL (mLc (iSeqC (eRev (eVar 0))) [1] (mgName 1) bYes (eMt "str" mJoin (eK (.str "")) (aCons (eL (mLc (iSeqC (eVar 1)) [2] (mgName 2) bYes (eCall fStr (aCons (eVar 2) aNil)))) aNil)))) aNil)))
def m_law_spelled : List T → VH → Res T := defM 3 1 s_law_spelled

def s_check_pattern : MS := (sIf (bNot (bTest (eIsi (.o 2) (eVar 0)))) sBad sNil)
def m_check_pattern : List T → VH → Res T := defM 1 1 s_check_pattern

def s_round_from : MS := (sSeq (sAsg (eTup (aCons (eIxK kv_SHIFTS (eIxK kv_AHEAD (eVar 1))) (aCons (eOp bMul (eCall fLen (aCons (eFld 2 1 (eVar 0)) aNil)) (eCall fLen (aCons (eOp bIx (eFld 2 1 (eVar 0)) (eK (.int 0))) aNil))) aNil))) (mgTup 2 (mgsCons (mgName 4) (mgsCons (mgName 5) mgsNil))))
  (sSeq (sSet 6 (eL (mLc (iRange1 (aCons (eVar 5) aNil)) [7] (mgName 7) bYes (eCall m_figure_at (aCons (eVar 0) (aCons (eOp bAdd (eVar 2) (eOp bMul (eVar 7) (eOp bIx (eVar 4) (eK (.int 0))))) (aCons (eOp bAdd (eVar 3) (eOp bMul (eVar 7) (eOp bIx (eVar 4) (eK (.int 1))))) aNil)))))))
  (sRet (eTup (aCons (eL (mLc (iEnumM (aCons (eVar 6) aNil)) [7, 8] (mgTup 2 (mgsCons (mgName 7) (mgsCons (mgName 8) mgsNil))) (bTest (eOp bEq (eVar 8) (eIxK kv_AHEAD (eVar 1)))) (eVar 7))) (aCons (eVar 5) aNil))))))
def m_round_from : List T → VH → Res T := defM 9 4 s_round_from

def s_longest_along : MS := (sSeq (sSet 2 (eK (.int 0)))
  (sSeq (sFor (iRange1 (aCons (eCall fLen (aCons (eFld 2 1 (eVar 0)) aNil)) aNil)) (mgName 3) (sFor (iRange1 (aCons (eCall fLen (aCons (eOp bIx (eFld 2 1 (eVar 0)) (eK (.int 0))) aNil)) aNil)) (mgName 4) (sSeq (sAsg (eCall m_round_from (aCons (eVar 0) (aCons (eVar 1) (aCons (eVar 4) (aCons (eVar 3) aNil))))) (mgTup 2 (mgsCons (mgName 5) (mgsCons (mgName 6) mgsNil))))
  (sSeq (sIf (bTest (eOp bEq (eVar 5) (eL (aLim aNil)))) (sRet (eK .non)) sNil)
  (sSeq (sSet 7 (eL (mLc (iZipM (aCons (eVar 5) (aCons (eL (aLim (aStar (eSl (eVar 5) (oSome (eK (.int 1))) oNo) (aCons (eOp bAdd (eOp bIx (eVar 5) (eK (.int 0))) (eVar 6)) aNil)))) aNil))) [8, 9] (mgTup 2 (mgsCons (mgName 8) (mgsCons (mgName 9) mgsNil))) bYes (eOp bSub (eVar 9) (eVar 8)))))
  (sSet 2 (eCall fMax (aCons (eL (aLim (aCons (eVar 2) (aStar (eVar 7) aNil)))) aNil))))))))
  (sRet (eVar 2))))
def m_longest_along : List T → VH → Res T := defM 10 2 s_longest_along

def s_least_held : MS := (sSeq (sExpr (eCall m_check_pattern (aCons (eVar 0) aNil)))
  (sSeq (sSet 1 (eL (mLc (iKeysK kv_AHEAD) [2] (mgName 2) bYes (eCall m_longest_along (aCons (eVar 0) (aCons (eVar 2) aNil))))))
  (sRet (eIf (bTest (eOp bIn (eK .non) (eVar 1))) (eK .non) (eOp bAdd (eK (.int 1)) (eCall fMax (aCons (eVar 1) aNil)))))))
def m_least_held : List T → VH → Res T := defM 3 1 s_least_held

def s_check_way : MS := (sIf (bOr (bNot (bTest (eIsi (.b "str") (eVar 0)))) (bTest (eInK true kv_AHEAD (eVar 0)))) sBad sNil)
def m_check_way : List T → VH → Res T := defM 1 1 s_check_way

def s_longest_free : MS := (sSeq (sExpr (eCall m_check_pattern (aCons (eVar 0) aNil)))
  (sSeq (sExpr (eCall m_check_way (aCons (eVar 1) aNil)))
  (sRet (eCall m_longest_along (aCons (eVar 0) (aCons (eVar 1) aNil))))))
def m_longest_free : List T → VH → Res T := defM 2 2 s_longest_free

def s_law_told : MS := (sSeq (sSet 1 (eCall (cutM (makeM 2 m_Pattern___init__)) (aCons (eCall m_law_spelled (aCons (eVar 0) aNil)) aNil)))
  (sRet (eOp bAdd (eL (mLc (iSeqC (eL (aLim (aCons (eK (.str "e")) (aCons (eK (.str "n")) (aCons (eK (.str "a")) (aCons (eK (.str "b")) aNil))))))) [2] (mgName 2) bYes (eCall m_longest_free (aCons (eVar 1) (aCons (eVar 2) aNil))))) (eL (aLim (aCons (eCall m_least_held (aCons (eVar 1) aNil)) aNil))))))
def m_law_told : List T → VH → Res T := defM 3 1 s_law_told

def s_law_turned : MS := (sSeq (sAsg (eTup (aCons (eCall fLen (aCons (eOp bIx (eVar 0) (eK (.int 0))) aNil)) (aCons (eCall fLen (aCons (eVar 0) aNil)) (aCons (eL (aLim (aCons (eK (.int 0)) (aCons (eK (.int 3)) (aCons (eK (.int 6)) (aCons (eK (.int 9)) (aCons (eK (.int 2)) (aCons (eK (.int 5)) (aCons (eK (.int 8)) (aCons (eK (.int 1)) (aCons (eK (.int 4)) (aCons (eK (.int 7)) aNil)))))))))))) aNil)))) (mgTup 3 (mgsCons (mgName 1) (mgsCons (mgName 2) (mgsCons (mgName 3) mgsNil)))))
  (sRet (eL (mLc (iRange1 (aCons (eVar 1) aNil)) [4] (mgName 4) bYes (eL (mLc (iRange1 (aCons (eVar 2) aNil)) [5] (mgName 5) bYes (eOp bIx (eVar 3) (eOp bIx (eOp bIx (eVar 0) (eOp bSub (eOp bSub (eVar 2) (eK (.int 1))) (eVar 5))) (eVar 4)))))))))
def m_law_turned : List T → VH → Res T := defM 6 1 s_law_turned

def s_law_case_right : MS := (sSeq (sSet 1 (eCall (cutM (makeM 2 m_Pattern___init__)) (aCons (eK (.str "88/22")) aNil)))
  (sSeq (sIf (bTest (eOp bNe (eL (aLim (aCons (eCall m_longest_free (aCons (eVar 1) (aCons (eK (.str "n")) aNil))) (aCons (eCall m_longest_free (aCons (eVar 1) (aCons (eK (.str "e")) aNil))) (aCons (eCall m_longest_free (aCons (eCall (cutM (makeM 2 m_Pattern___init__)) (aCons (eK (.str "64/00")) aNil)) (aCons (eK (.str "e")) aNil))) aNil))))) (eL (aLim (aCons (eK (.int 2)) (aCons (eK .non) (aCons (eK .non) aNil))))))) (sRet (eK (.bl false))) sNil)
  (sSeq (sFor (iRange1 (aCons (eK (.int 5)) aNil)) (mgName 2) (sSeq (sSet 3 (eCall m_law_grid (aCons (eVar 0) (aCons (eK (.int 5)) aNil))))
  (sSeq (sSet 4 (eCall m_law_told (aCons (eVar 3) aNil)))
  (sSeq (sPar 5 6 (aCons (eCall fLen (aCons (eOp bIx (eVar 3) (eK (.int 0))) aNil)) (aCons (eCall fLen (aCons (eVar 3) aNil)) aNil)))
  (sSeq (sSet 7 (eCall m_law_begun (aCons (eVar 3) (aCons (eCall m_law_roll (aCons (eVar 0) (aCons (eVar 5) aNil))) (aCons (eCall m_law_roll (aCons (eVar 0) (aCons (eVar 6) aNil))) aNil)))))
  (sSeq (sIf (bTest (eOp bNe (eCall m_law_told (aCons (eVar 7) aNil)) (eVar 4))) (sRet (eK (.bl false))) sNil)
  (sSeq (sIf (bOr (bTest (eOp bNe (eCall m_law_told (aCons (eL (mLc (iSeqC (eVar 3)) [8] (mgName 8) bYes (eOp bAdd (eVar 8) (eVar 8)))) aNil)) (eVar 4))) (bTest (eOp bNe (eCall m_law_told (aCons (eOp bAdd (eVar 3) (eVar 3)) aNil)) (eVar 4)))) (sRet (eK (.bl false))) sNil)
  (sSeq (sIf (bTest (eOp bNe (eCall m_law_told (aCons (eCall m_law_turned (aCons (eVar 3) aNil)) aNil)) (eL (aLim (aCons (eOp bIx (eVar 4) (eK (.int 1))) (aCons (eOp bIx (eVar 4) (eK (.int 0))) (aCons (eOp bIx (eVar 4) (eK (.int 3))) (aCons (eOp bIx (eVar 4) (eK (.int 2))) (aCons (eOp bIx (eVar 4) (eK (.int 4))) aNil))))))))) (sRet (eK (.bl false))) sNil)
  (sIf (bTest (eOp bNe (eCall m_law_told (aCons (eCall m_law_mirrored (aCons (eVar 3) aNil)) aNil)) (eL (aLim (aCons (eOp bIx (eVar 4) (eK (.int 0))) (aCons (eOp bIx (eVar 4) (eK (.int 1))) (aCons (eOp bIx (eVar 4) (eK (.int 3))) (aCons (eOp bIx (eVar 4) (eK (.int 2))) (aCons (eOp bIx (eVar 4) (eK (.int 4))) aNil))))))))) (sRet (eK (.bl false))) sNil)))))))))
  (sRet (eK (.bl true))))))
def m_law_case_right : List T → VH → Res T := defM 9 1 s_law_case_right

def s_law_cell : MS := (sSeq (sIf (bTest (eOp bLt (eVar 1) (eCall fLen (aCons (eVar 0) aNil)))) (sRet (eOp bIx (eVar 0) (eVar 1))) sNil)
  (sSeq (sSet 2 (eOp bMod (eCall fInt (aCons (eOp bMul (eK (.int 52361)) (eOp bAdd (eOp bAdd (eOp bMul (eVar 1) (eVar 1)) (eOp bMul (eK (.int 7)) (eVar 1))) (eK (.int 13)))) aNil)) (eK (.int 2147483543))))
  (sSeq (sFor (iSeqC (eSl (eVar 0) oNo (oSome (eK (.int 3))))) (mgName 3) (sSet 2 (eOp bMod (eCall fInt (aCons (eOp bAdd (eOp bAdd (eOp bMul (eVar 2) (eK (.int 44087))) (eOp bMul (eVar 3) (eK (.int 5)))) (eK (.int 1201))) aNil)) (eK (.int 2147483543)))))
  (sRet (eVar 2)))))
def m_law_cell : List T → VH → Res T := defM 4 2 s_law_cell

def s_law_purse : MS := (sRet (eH (aLim (aCons (eIf (bOr (bTest (eOp bLt (eVar 0) (eK (.int 0)))) (bTest (eOp bGe (eVar 0) (eOp bPow (eK (.int 10)) (eK (.int 18)))))) (eCall fAbs (aCons (eVar 0) aNil)) (eK (.int 0))) (aCons (eOp bMod (eCall fInt (aCons (eOp bAdd (eOp bMul (eVar 0) (eK (.int 48271))) (eK (.int 11))) aNil)) (eK (.int 2147483543))) (aCons (eK (.int 0)) aNil))))))
def m_law_purse : List T → VH → Res T := defM 1 1 s_law_purse

def s_law : MS := (sSeq (sFor (iRange1 (aCons (eCall fMax2 (aCons (eK (.int 2)) (aCons (eCall fMin2 (aCons (eCall fLen (aCons (eVar 0) aNil)) (aCons (eK (.int 4)) aNil))) aNil))) aNil)) (mgName 1) (sIf (bNot (bTest (eCall m_law_case_right (aCons (eCall m_law_purse (aCons (eCall m_law_cell (aCons (eVar 0) (aCons (eVar 1) aNil))) aNil)) aNil)))) (sRet (eK (.bl false))) sNil))
  (sRet (eK (.bl true))))
def m_law : List T → VH → Res T := defM 2 1 s_law

end K33

set_option Elab.async false
set_option linter.all false
set_option maxRecDepth 100000
set_option maxHeartbeats 4000000
namespace K33
open PySem L2 TL
def pur (a b c : Int) : VO := .lst [.int a, .int b, .int c]
/-- a purse stands at n -/
def IsP (o : VO) : Prop := ∃ a b c, o = pur a b c ∧ 0 ≤ b ∧ b < 2147483543
def Pu (n : Nat) (h : VH) : Prop := ∃ o, h[n]? = some o ∧ IsP o
theorem Pu.set {n : Nat} {h : VH} {o : VO} (hp : Pu n h) (ho : IsP o) : Pu n (h.set n o) := by
  obtain ⟨o', e, _⟩ := hp
  exact ⟨o, List.getElem?_set_self (List.getElem?_eq_some_iff.mp e).1, ho⟩
theorem roll_ok {n : Nat} {h : VH} {k : Int} (hp : Pu n h) (hk : 0 < k) (hk2 : k < 1000000) : ∃ r o, m_law_roll [.ref n, .int k] h = .ok (.int r) (h.set n o) ∧ 0 ≤ r ∧ r < k ∧ IsP o := by
  obtain ⟨o, e, a, b, c, rfl, hb, hb2⟩ := hp
  have hn : n < h.length := (List.getElem?_eq_some_iff.mp e).1
  unfold pur at e
  have hs : ∀ x : VO, (h.set n x)[n]? = some x := fun x => List.getElem?_set_self hn
  clear hn
  by_cases ha : 0 < a
  · refine ⟨a % k, pur (a / k) b (c + 1), ?_, Int.emod_nonneg _ (by omega), Int.emod_lt_of_pos _ hk, _, _, _, rfl, hb, hb2⟩
    have hq : Builtin.divisionGoesByPylong a k = false := PyProof.noPylong_small (by omega)
    simp [m_law_roll, s_law_roll, defM, startT, sSeq, sSet, sRet, sIf, sExpr, sNil, sAsg, sPar, sPar3, eVar, eK, eOp, eCall, mCall, eL, eH, aLim, aNil, aCons, aStar, eTup, eIf, bTest, TL.bAnd, TL.bOr, TL.bNot, bYes, eAnd, eOr, eNot, eNeg, eChain, eFld, getI, mgName, mgTup, mgsCons, mgsNil, mgSub, bSub, bMod, bFdv, bPow, bI, bI0, bAdd, bMul, bLt, bLe, bGt, bGe, bOrdG, bIs, bIsn, bIsG, TL.isNon, bIx, bSetL, fLen, fList, fTuple, fMax2, fMin2, fII, fAbs, fInt, fDivmod, TL.listOf, seqOf, tupOf, atI, ixN, List.getElem?_cons_zero, List.getElem?_cons_succ, List.set_cons_zero, List.set_cons_succ, List.map, List.length_cons, List.length_nil, List.replicate, List.append_nil, List.cons_append, List.nil_append, Option.bind_some, Option.bind, e, ha, hk, hq, hs, pur]
  · have hm : cMul b (b + 50021) = true := by
      unfold cMul
      rw [Bool.or_eq_true, Bool.and_eq_true]
      exact .inl ⟨decide_eq_true (by omega), decide_eq_true (by omega)⟩
    have hm2 : cMul 91229 (c + 1) = true := by
      unfold cMul
      rw [Bool.or_eq_true, Bool.and_eq_true]
      exact .inl ⟨by decide, by decide⟩
    refine ⟨(b * (b + 50021) + 91229 * (c + 1)) % 2147483543 / 128 % k, pur a ((b * (b + 50021) + 91229 * (c + 1)) % 2147483543) (c + 1), ?_, Int.emod_nonneg _ (by omega), Int.emod_lt_of_pos _ hk, _, _, _, rfl, Int.emod_nonneg _ (by omega), Int.emod_lt_of_pos _ (by omega)⟩
    simp [m_law_roll, s_law_roll, defM, startT, sSeq, sSet, sRet, sIf, sExpr, sNil, sAsg, sPar, sPar3, eVar, eK, eOp, eCall, mCall, eL, eH, aLim, aNil, aCons, aStar, eTup, eIf, bTest, TL.bAnd, TL.bOr, TL.bNot, bYes, eAnd, eOr, eNot, eNeg, eChain, eFld, getI, mgName, mgTup, mgsCons, mgsNil, mgSub, bSub, bMod, bFdv, bPow, bI, bI0, bAdd, bMul, bLt, bLe, bGt, bGe, bOrdG, bIs, bIsn, bIsG, TL.isNon, bIx, bSetL, fLen, fList, fTuple, fMax2, fMin2, fII, fAbs, fInt, fDivmod, TL.listOf, seqOf, tupOf, atI, ixN, List.getElem?_cons_zero, List.getElem?_cons_succ, List.set_cons_zero, List.set_cons_succ, List.map, List.length_cons, List.length_nil, List.replicate, List.append_nil, List.cons_append, List.nil_append, Option.bind_some, Option.bind, e, ha, hk, hs, hm, hm2, pur]
/-! ### grids -/
def dig (d : Nat) : Str := ⟨#[48 + d]⟩
def rowS (r : List Nat) : Str := ⟨(r.map (48 + ·)).toArray⟩
def rowsT (G : List (List Nat)) : T := .lst (G.map fun r => .str (rowS r))
def gridT (G : List (List Nat)) : T := .lst (G.map fun r => .lst (r.map fun d => .int (d : Nat)))
structure Dim (G : List (List Nat)) (W H : Nat) : Prop where
  len : G.length = H
  h0 : 0 < H
  h1 : H ≤ 12
  row : ∀ r ∈ G, r.length = W
  w0 : 0 < W
  w1 : W ≤ 12
def rowAt (G : List (List Nat)) (H : Nat) (y : Int) : List Nat := G.getD (y % H).toNat []
def cell (G : List (List Nat)) (W H : Nat) (x y : Int) : Nat := (rowAt G H y).getD (x % W).toNat 0
section
variable {G : List (List Nat)} {W H : Nat}
theorem mod_lt' (y : Int) {H : Nat} (h : 0 < H) : (y % H).toNat < H := by
  have a := Int.emod_nonneg y (b := (H : Int)) (by omega)
  have b := Int.emod_lt_of_pos y (b := (H : Int)) (by omega)
  omega
theorem Dim.rowAt_mem (D : Dim G W H) (y : Int) : rowAt G H y ∈ G := by
  unfold rowAt
  have h := mod_lt' y D.h0
  rw [List.getD_eq_getElem?_getD, List.getElem?_eq_getElem (by rw [D.len]; exact h)]
  exact List.getElem_mem _
theorem Dim.ixRow (D : Dim G W H) {α : Type} (f : List Nat → α) (y : Int) : atI (G.map f) (y % H) = some (f (rowAt G H y)) := by
  have h := mod_lt' y D.h0
  have a := Int.emod_nonneg y (b := (H : Int)) (by have := D.h0; omega)
  have b := Int.emod_lt_of_pos y (b := (H : Int)) (by have := D.h0; omega)
  rw [ix_nn a (by rw [List.length_map, D.len]; exact b), List.getElem?_map]
  unfold rowAt
  rw [List.getD_eq_getElem?_getD, List.getElem?_eq_getElem (by rw [D.len]; exact h)]
  rfl
theorem Dim.ixCell (D : Dim G W H) {α : Type} (f : Nat → α) (x y : Int) : atI ((rowAt G H y).map f) (x % W) = some (f (cell G W H x y)) := by
  have hl := D.row _ (D.rowAt_mem y)
  have h := mod_lt' x D.w0
  have a := Int.emod_nonneg x (b := (W : Int)) (by have := D.w0; omega)
  have b := Int.emod_lt_of_pos x (b := (W : Int)) (by have := D.w0; omega)
  rw [ix_nn a (by rw [List.length_map, hl]; exact b), List.getElem?_map]
  unfold cell
  rw [List.getD_eq_getElem?_getD, List.getElem?_eq_getElem (by rw [hl]; exact h)]
  rfl
theorem rowS_len (r : List Nat) : (rowS r).length = r.length := by simp [rowS, Str.length]
theorem fig_ok (D : Dim G W H) {o : T} {u : T} {h : VH} (ho : getI h o = some (2, [u, rowsT G])) (x y : Int) : m_figure_at [o, .int x, .int y] h = .ok (.str (dig (cell G W H x y))) h := by
  have e1 := D.ixRow (fun r => T.str (rowS r)) y
  have e2 : atI (rowS (rowAt G H y)).cps.toList (x % W) = some (48 + cell G W H x y) := D.ixCell (48 + ·) x y
  have e3 : (rowS (rowAt G H y)).length = W := by rw [rowS_len, D.row _ (D.rowAt_mem y)]
  have e4 := D.len
  have e5 := D.h0
  have e6 := D.w0
  unfold rowsT at ho
  simp [m_figure_at, s_figure_at, defM, startT, sSeq, sSet, sRet, sIf, sExpr, sNil, sAsg, sPar, sPar3, eVar, eK, eOp, eCall, mCall, eL, eH, aLim, aNil, aCons, aStar, eTup, eIf, bTest, TL.bAnd, TL.bOr, TL.bNot, bYes, eAnd, eOr, eNot, eNeg, eChain, eFld, mgName, mgTup, mgsCons, mgsNil, mgSub, bSub, bMod, bFdv, bPow, bI, bI0, bAdd, bMul, bLt, bLe, bGt, bGe, bOrdG, bIs, bIsn, bIsG, TL.isNon, bIx, bSetL, fLen, fList, fTuple, fMax2, fMin2, fII, fAbs, fInt, fDivmod, TL.listOf, seqOf, tupOf, List.getElem?_cons_zero, List.getElem?_cons_succ, List.set_cons_zero, List.set_cons_succ, List.map, List.length_cons, List.length_nil, List.replicate, List.append_nil, List.cons_append, List.nil_append, Option.bind_some, Option.bind, ho, e1, e2, e3, e4, e5, e6, dig]
end
end K33

set_option Elab.async false
set_option linter.all false
set_option maxRecDepth 100000
set_option maxHeartbeats 400000
namespace K33
open PySem L2 TL
theorem ten {P : Nat → Prop} (h0 : P 0) (h1 : P 1) (h2 : P 2) (h3 : P 3) (h4 : P 4) (h6 : P 6) (h7 : P 7) (h8 : P 8) (h9 : P 9) (d : Nat) (hd : d < 10) (h5 : d ≠ 5) : P d := by
  have : d = 0 ∨ d = 1 ∨ d = 2 ∨ d = 3 ∨ d = 4 ∨ d = 6 ∨ d = 7 ∨ d = 8 ∨ d = 9 := by omega
  rcases this with rfl | rfl | rfl | rfl | rfl | rfl | rfl | rfl | rfl <;> assumption
def sx : Nat → Int
  | 6 => 1 | 4 => -1 | 9 => 1 | 1 => -1 | 7 => -1 | 3 => 1 | _ => 0
def sy : Nat → Int
  | 8 => 1 | 2 => -1 | 9 => 1 | 1 => -1 | 7 => 1 | 3 => -1 | _ => 0
theorem str_dig (d : Nat) (hd : d < 10) (h5 : d ≠ 5) : Str.ofString (toString ((d : Nat) : Int)) = dig d := by
  refine ten (P := fun d => Str.ofString (toString ((d : Nat) : Int)) = dig d) ?_ ?_ ?_ ?_ ?_ ?_ ?_ ?_ ?_ d hd h5 <;> decide +kernel
theorem fStr_dig (h : VH) (d : Nat) (hd : d < 10) (h5 : d ≠ 5) : fStr [.int (d : Nat)] h = .ok (.str (dig d)) h := by
  have e := str_dig d hd h5
  have e2 : Nat.log2 (((d : Nat) : Int).natAbs) < 1920 := by
    refine ten (P := fun d => Nat.log2 (((d : Nat) : Int).natAbs) < 1920) ?_ ?_ ?_ ?_ ?_ ?_ ?_ ?_ ?_ d hd h5 <;> decide +kernel
  have e3 : (dig d).length ≤ 1000000 := by show (#[48 + d] : Array Nat).size ≤ _; simp
  unfold fStr
  simp only [e]
  rw [if_pos ⟨e2, e3⟩]
theorem fInt_dig (h : VH) (d : Nat) (hd : d < 10) (h5 : d ≠ 5) : fInt [.str (dig d)] h = .ok (.int d) h := by
  have e : intText? (dig d) = some (d : Int) := by
    refine ten (P := fun d => intText? (dig d) = some (d : Int)) ?_ ?_ ?_ ?_ ?_ ?_ ?_ ?_ ?_ d hd h5 <;> decide +kernel
  have e3 : (dig d).length ≤ 640 := by show (#[48 + d] : Array Nat).size ≤ _; simp
  unfold fInt
  simp only [e]
  rw [if_pos e3]
theorem in_dig (h : VH) (d : Nat) (hd : d < 10) (h5 : d ≠ 5) : bIn (.str (dig d)) (.str "012346789") h = .ok (.bl true) h := by
  have e : bInS false (dig d) "012346789" = true := by
    refine ten (P := fun d => bInS false (dig d) "012346789" = true) ?_ ?_ ?_ ?_ ?_ ?_ ?_ ?_ ?_ d hd h5 <;> decide +kernel
  unfold bIn bInG
  simp only [e]
theorem sh_dig (d : Nat) (hd : d < 10) (h5 : d ≠ 5) (h0 : d ≠ 0) : kv_SHIFTS.lookup (dig d) = some (.tup [.int (sx d), .int (sy d)]) := by
  refine ten (P := fun d => d ≠ 0 → kv_SHIFTS.lookup (dig d) = some (.tup [.int (sx d), .int (sy d)])) ?_ ?_ ?_ ?_ ?_ ?_ ?_ ?_ ?_ d hd h5 h0
  · intro z; exact absurd rfl z
  all_goals intro _; rfl
/-! ### spelling -/
def spell (G : List (List Nat)) : Str := Str.join "/" (G.reverse.map rowS)
theorem join_digs (r : List Nat) : Txt.join "" (r.map dig) = rowS r := by
  rw [join_eq]
  apply ext_tl
  rw [tl_join]
  have e : tl ("" : Str) = [] := by decide
  rw [e]
  show _ = r.map (48 + ·)
  induction r with
  | nil => rfl
  | cons a r ih =>
    cases r with
    | nil => rfl
    | cons b r =>
      simp only [List.map_cons, joinL] at ih ⊢
      rw [ih]
      rfl
structure Digs (G : List (List Nat)) : Prop where
  lt : ∀ r ∈ G, ∀ d ∈ r, d < 10
  n5 : ∀ r ∈ G, ∀ d ∈ r, d ≠ 5
section
variable {G : List (List Nat)} {W H : Nat}
theorem sum_len (r : List Nat) : ((r.map dig).map (·.length)).sum = r.length := by
  induction r with
  | nil => rfl
  | cons a r ih => simp only [List.map_cons, List.sum_cons, ih, List.length_cons]; show 1 + _ = _; omega
theorem tl_rowS (r : List Nat) : tl (rowS r) = r.map (48 + ·) := rfl
theorem rows_sum (D : Dim G W H) : ((G.reverse.map rowS).map (·.length)).sum ≤ 144 := by
  have : ∀ l : List (List Nat), (∀ r ∈ l, r.length = W) → ((l.map rowS).map (·.length)).sum = l.length * W := by
    intro l hl
    induction l with
    | nil => simp
    | cons a l ih =>
      simp only [List.map_cons, List.sum_cons, List.length_cons]
      rw [ih fun r hr => hl r (List.mem_cons_of_mem _ hr), rowS_len, hl a List.mem_cons_self, Nat.succ_mul]
      omega
  rw [this G.reverse fun r hr => D.row r (by simpa using hr), List.length_reverse, D.len]
  have h1 := D.h1
  have h2 := D.w1
  exact Nat.le_trans (Nat.mul_le_mul h1 h2) (by omega)
theorem spell_len (D : Dim G W H) : (spell G).length ≤ 1000000 := by
  unfold spell
  refine Nat.le_trans (StrLaws.join_length_le _ _) ?_
  have e := rows_sum D
  have e1 : ("/" : Str).length = 1 := by decide
  rw [e1, List.length_map, List.length_reverse, D.len]
  have := D.h1
  omega
theorem inner_spell {r : List Nat} (hr : ∀ d ∈ r, d < 10) (h5 : ∀ d ∈ r, d ≠ 5) (hl : r.length ≤ 12) (g c : Option T) (h : VH) :
    mLc (iSeqC (eVar 1)) [2] (mgName 2) bYes (eCall fStr (aCons (eVar 2) aNil)) [g, some (.lst (r.map fun d => .int (d : Nat))), c] h = .ok (r.map fun d => .str (dig d)) h := by
  have z := mLc_map (mi := iSeqC (eVar 1)) (ws := [2]) (g := mgName 2) (e := eCall fStr (aCons (eVar 2) aNil)) (τ := [g, some (.lst (r.map fun d => .int (d : Nat))), c]) (h := h) (rd := fun h => seqS h (.lst (r.map fun d => .int (d : Nat)))) (ts := r.map fun d => .int (d : Nat))
    (by simp [iSeqC, eVar, walkable, seqS, seqOf, TL.listOf]) (by simp [seqS, seqOf, TL.listOf]) (by rw [List.length_map]; omega) (fun t => match t with | .int i => .str (Str.ofString (toString i)) | t => t) (fun t ht => by
      obtain ⟨d, hd, rfl⟩ := List.mem_map.mp ht
      refine ⟨_, rfl, ?_⟩
      simp only [eCall, aCons, aNil, eVar, wipeT, List.set_cons_succ, List.set_cons_zero, List.getElem?_cons_succ, List.getElem?_cons_zero, fStr_dig h d (hr d hd) (h5 d hd), str_dig d (hr d hd) (h5 d hd)])
  rw [z, List.map_map]
  congr 1
  refine List.map_congr_left fun d hd => ?_
  simp only [Function.comp, str_dig d (hr d hd) (h5 d hd)]
theorem spelled_ok (D : Dim G W H) (A : Digs G) (h : VH) : m_law_spelled [gridT G] h = .ok (.str (spell G)) h := by
  have inner : ∀ c, mLc (iSeqC (eRev (eVar 0))) [1] (mgName 1) bYes (eMt "str" mJoin (eK (.str "")) (aCons (eL (mLc (iSeqC (eVar 1)) [2] (mgName 2) bYes (eCall fStr (aCons (eVar 2) aNil)))) aNil)) [some (gridT G), c, none] h = .ok (G.reverse.map fun r => .str (rowS r)) h := by
    intro c
    have z := mLc_map (mi := iSeqC (eRev (eVar 0))) (ws := [1]) (g := mgName 1) (e := eMt "str" mJoin (eK (.str "")) (aCons (eL (mLc (iSeqC (eVar 1)) [2] (mgName 2) bYes (eCall fStr (aCons (eVar 2) aNil)))) aNil)) (τ := [some (gridT G), c, none]) (h := h)
      (rd := fun h => seqS h (.lst (G.map fun r => T.lst (r.map fun d => .int (d : Nat))).reverse)) (ts := G.reverse.map fun r => T.lst (r.map fun d => .int (d : Nat)))
      (by simp [iSeqC, eRev, eVar, gridT, walkable, seqS, seqOf, TL.listOf]) (by simp [seqS, seqOf, TL.listOf]) (by rw [List.length_map, List.length_reverse, D.len]; have := D.h1; omega)
      (fun t => match t with | .lst ts => .str (rowS (ts.map fun u => match u with | .int i => i.toNat | _ => 0)) | t => t) (fun t ht => by
        obtain ⟨r, hr, rfl⟩ := List.mem_map.mp ht
        have hr' : r ∈ G := by simpa using hr
        refine ⟨_, rfl, ?_⟩
        have hl : r.length ≤ 12 := by rw [D.row r hr']; exact D.w1
        have i := inner_spell (A.lt r hr') (A.n5 r hr') hl (some (gridT G)) none h
        have e1 : strsOf (r.map fun d => T.str (dig d)) = some (r.map dig) := by
          have := strsOf_map (r.map dig)
          rw [List.map_map] at this
          exact this
        have e2 := sum_len r
        have e3 : ("" : Str).length = 0 := by decide
        have e4 : (r.map fun d => T.int (d : Nat)).map (fun u => match u with | .int i => i.toNat | _ => 0) = r := by
          rw [List.map_map]
          exact (List.map_congr_left fun d _ => rfl).trans (List.map_id r)
        simp only [eMt, eK, tyT, aCons, aNil, eL, wipeT, List.set_cons_succ, List.set_cons_zero, i, mJoin, seqOf, TL.listOf, e1, e2, e3, e4, join_digs, beq_self_eq_true, if_true]
        rw [if_pos (by rw [List.length_map]; omega)])
    rw [z, List.map_map]
    congr 1
    refine List.map_congr_left fun r hr => ?_
    have e4 : (r.map fun d => T.int (d : Nat)).map (fun u => match u with | .int i => i.toNat | _ => 0) = r := by
      rw [List.map_map]
      exact (List.map_congr_left fun d _ => rfl).trans (List.map_id r)
    simp only [Function.comp, e4]
  have e1 : strsOf (G.reverse.map fun r => T.str (rowS r)) = some (G.reverse.map rowS) := by
    have := strsOf_map (G.reverse.map rowS)
    rw [List.map_map] at this
    exact this
  have e2 : ((G.reverse.map rowS).map (·.length)).sum + (G.reverse.map rowS).length * ("/" : Str).length ≤ 1000000 := by
    have e := rows_sum D
    have e1 : ("/" : Str).length = 1 := by decide
    rw [e1, List.length_map, List.length_reverse, D.len]
    have := D.h1
    omega
  have e3 : Txt.join "/" (G.reverse.map rowS) = spell G := join_eq _ _
  simp only [m_law_spelled, s_law_spelled, defM, startT, sRet, eMt, eK, tyT, aCons, aNil, eL, List.map_cons, List.map_nil, List.length_cons, List.length_nil, List.cons_append, List.nil_append, Nat.reduceAdd, Nat.reduceSub, List.replicate, inner, mJoin, seqOf, TL.listOf, e1, e3, beq_self_eq_true, if_true]
  rw [if_pos e2]
end
end K33

set_option Elab.async false
set_option linter.all false
set_option maxRecDepth 100000
set_option maxHeartbeats 400000
namespace K33
open PySem L2 TL
section
variable {G : List (List Nat)} {W H : Nat}
theorem split_spell (D : Dim G W H) : Txt.split (spell G) "/" = G.reverse.map rowS := by
  unfold spell
  rw [← join_eq]
  refine split_join (y := ("/" : Str)) (s := 47) (S := []) (by decide +kernel) (by decide +kernel) (by
    intro z
    have := congrArg List.length z
    rw [List.length_map, List.length_reverse, D.len] at this
    have z0 := D.h0
    rw [List.length_nil] at this
    omega) fun p hp => ?_
  obtain ⟨r, hr, rfl⟩ := List.mem_map.mp hp
  rw [tl_rowS]
  intro z
  obtain ⟨d, _, e⟩ := List.mem_map.mp z
  omega
theorem signs_row (r : List Nat) : signsT (rowS r) = r.map fun d => .str (dig d) := by
  unfold signsT rowS
  show List.map _ (List.map _ r) = _
  rw [List.map_map]
  rfl
theorem all_true {α : Type} (l : List α) : (l.map fun _ => true).all id = true := by
  induction l with
  | nil => rfl
  | cons a l ih => simpa using ih
theorem inner_in {r : List Nat} (hr : ∀ d ∈ r, d < 10) (h5 : ∀ d ∈ r, d ≠ 5) (hl : r.length ≤ 12) (a b c : Option T) (h : VH) :
    mLc (iSeqC (eVar 2)) [3] (mgName 3) bYes (eOp bIn (eVar 3) (eK (.str "012346789"))) [a, b, some (.str (rowS r)), c] h = .ok (r.map fun _ => .bl true) h := by
  have z := mLc_map (mi := iSeqC (eVar 2)) (ws := [3]) (g := mgName 3) (e := eOp bIn (eVar 3) (eK (.str "012346789"))) (τ := [a, b, some (.str (rowS r)), c]) (h := h) (rd := fun h => seqS h (.str (rowS r))) (ts := r.map fun d => .str (dig d))
    (by simp [iSeqC, eVar, walkable, seqS]) (by simp [seqS, signs_row]) (by rw [List.length_map]; omega) (fun _ => .bl true) (fun t ht => by
      obtain ⟨d, hd, rfl⟩ := List.mem_map.mp ht
      refine ⟨_, rfl, ?_⟩
      simp only [eOp, eK, eVar, wipeT, List.set_cons_succ, List.set_cons_zero, List.getElem?_cons_succ, List.getElem?_cons_zero, in_dig h d (hr d hd) (h5 d hd)])
  rw [z, List.map_map]
  rfl
theorem all_bl {α : Type} (l : List α) (h : VH) : fAll [.lst (l.map fun _ => T.bl true)] h = .ok (.bl true) h := by
  have e : blsOf (l.map fun _ => T.bl true) = some (l.map fun _ => true) := by
    have := blsOf_map (l.map fun _ => true)
    rw [List.map_map] at this
    exact this
  unfold fAll fBls
  simp only [TL.listOf, e, all_true]
theorem rows_ok (D : Dim G W H) (A : Digs G) (h : VH) : m_rows_in [.str (spell G)] h = .ok (rowsT G) h := by
  have es := split_spell D
  have hl : G.reverse.length = H := by rw [List.length_reverse, D.len]
  have sh : shortAll (G.reverse.map rowS) = true := by
    unfold shortAll
    rw [List.all_eq_true]
    intro x hx
    obtain ⟨r, hr, rfl⟩ := List.mem_map.mp hx
    have := D.row r (by simpa using hr)
    have := D.w1
    exact decide_eq_true (by rw [rowS_len]; omega)
  have h0 := D.h0
  have h1 := D.h1
  have w0 := D.w0
  have w1 := D.w1
  have hm : (G.reverse.map rowS).map T.str = G.reverse.map fun r => .str (rowS r) := by rw [List.map_map]; rfl
  have hll : (G.reverse.map fun r => T.str (rowS r)).length = H := by rw [List.length_map, hl]
  obtain ⟨r0, er0, hr0⟩ : ∃ r0, atI (G.reverse.map fun r => T.str (rowS r)) 0 = some (.str (rowS r0)) ∧ r0 ∈ G := by
    rw [ix_nn (Int.le_refl _) (by rw [hll]; omega), List.getElem?_map]
    have : (0 : Nat) < G.reverse.length := by omega
    refine ⟨G.reverse[0], ?_, by simpa using List.getElem_mem this⟩
    show Option.map _ G.reverse[0]? = _
    rw [List.getElem?_eq_getElem this]
    rfl
  have el0 : (rowS r0).length = W := by rw [rowS_len, D.row r0 hr0]
  have outer : ∀ a c d, mLc (iSeqC (eVar 1)) [2] (mgName 2) bYes (eAnd (eOp bEq (eCall fLen (aCons (eVar 2) aNil)) (eCall fLen (aCons (eOp bIx (eVar 1) (eK (.int 0))) aNil))) (eCall fAll (aCons (eL (mLc (iSeqC (eVar 2)) [3] (mgName 3) bYes (eOp bIn (eVar 3) (eK (.str "012346789"))))) aNil))) [a, some (.lst (G.reverse.map fun r => .str (rowS r))), c, d] h = .ok (G.reverse.map fun _ => .bl true) h := by
    intro a c d
    have z := mLc_map (mi := iSeqC (eVar 1)) (ws := [2]) (g := mgName 2) (e := eAnd (eOp bEq (eCall fLen (aCons (eVar 2) aNil)) (eCall fLen (aCons (eOp bIx (eVar 1) (eK (.int 0))) aNil))) (eCall fAll (aCons (eL (mLc (iSeqC (eVar 2)) [3] (mgName 3) bYes (eOp bIn (eVar 3) (eK (.str "012346789"))))) aNil)))
      (τ := [a, some (.lst (G.reverse.map fun r => .str (rowS r))), c, d]) (h := h) (rd := fun h => seqS h (.lst (G.reverse.map fun r => .str (rowS r)))) (ts := G.reverse.map fun r => .str (rowS r))
      (by simp [iSeqC, eVar, walkable, seqS, seqOf, TL.listOf]) (by simp [seqS, seqOf, TL.listOf]) (by rw [hll]; omega) (fun _ => .bl true) (fun t ht => by
        obtain ⟨r, hr, rfl⟩ := List.mem_map.mp ht
        have hr' : r ∈ G := by simpa using hr
        have el : (rowS r).length = W := by rw [rowS_len, D.row r hr']
        refine ⟨_, rfl, ?_⟩
        have i := inner_in (A.lt r hr') (A.n5 r hr') (by rw [D.row r hr']; exact D.w1) a (some (.lst (G.reverse.map fun r => .str (rowS r)))) d h
        have ei : ∀ x : Int, PyData.eqv (.int x) (.int x) = true := fun x => by simp [PyData.eqv]
        simp only [eAnd, eOp, eCall, aCons, aNil, eL, eK, eVar, wipeT, List.set_cons_succ, List.set_cons_zero, List.getElem?_cons_succ, List.getElem?_cons_zero, fLen, bIx, TL.listOf, er0, el, el0, bEq, bEqG, dat_int, ei, i, all_bl])
    rw [z, List.map_map]
    rfl
  have a1 := all_bl G.reverse h
  have c1 : bLe (.int 1) (.int H) h = .ok (.bl true) h := by simp [bLe, bOrdG]; omega
  have c2 : bLe (.int H) (.int 12) h = .ok (.bl true) h := by simp [bLe, bOrdG]; omega
  have c3 : bLe (.int 1) (.int W) h = .ok (.bl true) h := by simp [bLe, bOrdG]; omega
  have c4 : bLe (.int W) (.int 12) h = .ok (.bl true) h := by simp [bLe, bOrdG]; omega
  have ez : (("/" : Str).length == 0) = false := by decide
  have hz : (G.reverse.map rowS).length ≤ 16777216 := by rw [List.length_map, hl]; omega
  have er : (G.reverse.map fun r => T.str (rowS r)).reverse = G.map fun r => T.str (rowS r) := by rw [← List.map_reverse, List.reverse_reverse]
  simp only [m_rows_in, s_rows_in, defM, startT, sSeq, sSet, sIf, sRet, sNil, eIf, bTest, eIsi, tyOf, isiB, eMt, tyT, mSplit, eVar, eK, eL, aLim, aCons, aNil, List.map_cons, List.map_nil, List.length_cons, List.length_nil, List.cons_append, List.nil_append, Nat.reduceAdd, Nat.reduceSub, List.replicate, List.getElem?_cons_zero, List.getElem?_cons_succ, List.set_cons_succ, List.set_cons_zero, beq_self_eq_true, Bool.true_or, if_true, es, ez, hz, sh, and_self, hm,
    TL.bOr, TL.bNot, eChain, eCall, fLen, seqOf, TL.listOf, hll, eOp, bIx, er0, el0, c1, c2, c3, c4, Bool.not_true, outer, a1, eRev, er]
  rfl
end
end K33

set_option Elab.async false
set_option linter.all false
set_option maxRecDepth 100000
set_option maxHeartbeats 400000
namespace K33
open PySem L2 TL
structure Mut (G : List (List Nat)) (W H : Nat) : Prop where
  lt : ∀ x y, cell G W H x y < 10
  n5 : ∀ x y, cell G W H x y ≠ 5
  mate : ∀ x y, cell G W H x y ≠ 0 → cell G W H (x + sx (cell G W H x y)) (y + sy (cell G W H x y)) + cell G W H x y = 10
section
variable {G : List (List Nat)} {W H : Nat}
theorem rowAt_nat (D : Dim G W H) {i : Nat} (hi : i < H) : rowAt G H (i : Int) = G.getD i [] := by
  unfold rowAt
  have : ((i : Int) % (H : Int)).toNat = i := by
    rw [Int.emod_eq_of_lt (by omega) (by omega)]
    omega
  rw [this]
theorem cell_nat (D : Dim G W H) {i j : Nat} (hi : i < H) (hj : j < W) : cell G W H (j : Int) (i : Int) = (G.getD i []).getD j 0 := by
  unfold cell
  rw [rowAt_nat D hi]
  have : ((j : Int) % (W : Int)).toNat = j := by
    rw [Int.emod_eq_of_lt (by omega) (by omega)]
    omega
  rw [this]
theorem getD_lt {l : List Nat} {j : Nat} (h : j < l.length) : l.getD j 0 = l[j] := by
  rw [List.getD_eq_getElem?_getD, List.getElem?_eq_getElem h]
  rfl
theorem enum_at {ts : List T} {i : Nat} (hi : i < (enumT ts).length) : ∃ h : i < ts.length, (enumT ts)[i] = .tup [.int (i : Nat), ts[i]] := by
  have hl : i < ts.length := by simpa [enumT] using hi
  exact ⟨hl, by simp [enumT]⟩
theorem enum_len (ts : List T) : (enumT ts).length = ts.length := by simp [enumT]
theorem dig_zero (d : Nat) : PyData.eqv (.str (dig d)) (.str "0") = decide (d = 0) := by
  have e : ("0" : Str) = dig 0 := by decide
  rw [e]
  simp only [PyData.eqv]
  rw [W.beq_decide]
  refine decide_eq_decide.mpr ⟨fun z => ?_, fun z => by rw [z]⟩
  have := congrArg (fun s : Str => s.cps.toList) z
  simp [dig] at this
  exact this
/-- nothing is wrong -/
theorem first_ok (D : Dim G W H) (M : Mut G W H) {o u : T} {h : VH} (ho : getI h o = some (2, [u, rowsT G])) : m_first_wrong [o] h = .ok .non h := by
  have h0 := D.h0
  have h1 := D.h1
  have inner : ∀ (i : Nat) (hi : i < H) (d e f : Option T), ∃ d' e' f', sFor (iEnumSM (aCons (eVar 2) aNil)) (mgTup 2 (mgsCons (mgName 3) (mgsCons (mgName 4) mgsNil))) (sIf (bTest (eOp bNe (eVar 4) (eK (.str "0")))) (sSeq (sSet 5 (eIxK kv_SHIFTS (eVar 4)))
  (sIf (bTest (eOp bNe (eOp bAdd (eCall fInt (aCons (eCall m_figure_at (aCons (eVar 0) (aCons (eOp bAdd (eVar 3) (eOp bIx (eVar 5) (eK (.int 0)))) (aCons (eOp bAdd (eVar 1) (eOp bIx (eVar 5) (eK (.int 1)))) aNil)))) aNil)) (eCall fInt (aCons (eVar 4) aNil))) (eK (.int 10)))) (sRet (eTup (aCons (eVar 3) (aCons (eVar 1) aNil)))) sNil)) sNil) [some o, some (.int (i : Nat)), some (.str (rowS (G.getD i []))), d, e, f] h = .nx [some o, some (.int (i : Nat)), some (.str (rowS (G.getD i []))), d', e', f'] h := by
    intro i hi d e f
    have hr : G.getD i [] ∈ G := by
      rw [List.getD_eq_getElem?_getD, List.getElem?_eq_getElem (by rw [D.len]; exact hi)]
      exact List.getElem_mem _
    have hlr := D.row _ hr
    obtain ⟨τ', h', q1, q2⟩ := sFor_inv (mi := iEnumSM (aCons (eVar 2) aNil)) (g := mgTup 2 (mgsCons (mgName 3) (mgsCons (mgName 4) mgsNil))) (body := (sIf (bTest (eOp bNe (eVar 4) (eK (.str "0")))) (sSeq (sSet 5 (eIxK kv_SHIFTS (eVar 4)))
  (sIf (bTest (eOp bNe (eOp bAdd (eCall fInt (aCons (eCall m_figure_at (aCons (eVar 0) (aCons (eOp bAdd (eVar 3) (eOp bIx (eVar 5) (eK (.int 0)))) (aCons (eOp bAdd (eVar 1) (eOp bIx (eVar 5) (eK (.int 1)))) aNil)))) aNil)) (eCall fInt (aCons (eVar 4) aNil))) (eK (.int 10)))) (sRet (eTup (aCons (eVar 3) (aCons (eVar 1) aNil)))) sNil)) sNil)) (τ := [some o, some (.int (i : Nat)), some (.str (rowS (G.getD i []))), d, e, f]) (h := h) (h1 := h)
      (rd := fun _ => some (enumT (signsT (rowS (G.getD i []))))) (ts := enumT (signsT (rowS (G.getD i [])))) (fun _ τ h' => h' = h ∧ ∃ d e f, τ = [some o, some (.int (i : Nat)), some (.str (rowS (G.getD i []))), d, e, f])
      (by simp [iEnumSM, aCons, aNil, eVar]) ⟨rfl, d, e, f, rfl⟩ (fun _ _ _ _ => rfl) (fun j hj τ h' I => by
        obtain ⟨rfl, d, e, f, rfl⟩ := I
        obtain ⟨hj2, ej⟩ := enum_at hj
        rw [ej]
        have hj3 : j < (G.getD i []).length := by rw [signs_row, List.length_map] at hj2; exact hj2
        have hjW : j < W := by rw [← hlr]; exact hj3
        have es : (signsT (rowS (G.getD i [])))[j] = .str (dig (cell G W H (j : Int) (i : Int))) := by
          rw [cell_nat D hi hjW]
          have e1 : (signsT (rowS (G.getD i [])))[j]? = some (.str (dig ((G.getD i []).getD j 0))) := by
            rw [signs_row, List.getElem?_map, List.getElem?_eq_getElem hj3]
            rw [getD_lt hj3]
            rfl
          rw [List.getElem?_eq_getElem hj2] at e1
          exact Option.some.inj e1
        rw [es]
        have c1 := M.lt (j : Int) (i : Int)
        have c2 := M.n5 (j : Int) (i : Int)
        have c3 := M.mate (j : Int) (i : Int)
        generalize hc : cell G W H (j : Int) (i : Int) = c at c1 c2 c3
        refine ⟨[some o, some (.int (i : Nat)), some (.str (rowS (G.getD i []))), some (.int (j : Nat)), some (.str (dig c)), f], h', ?_⟩
        have eg : mgTup 2 (mgsCons (mgName 3) (mgsCons (mgName 4) mgsNil)) (.tup [.int (j : Nat), .str (dig c)]) [some o, some (.int (i : Nat)), some (.str (rowS (G.getD i []))), d, e, f] h' = .ok [some o, some (.int (i : Nat)), some (.str (rowS (G.getD i []))), some (.int (j : Nat)), some (.str (dig c)), f] h' := by
          simp [mgTup, mgsCons, mgName, mgsNil]
        by_cases z : c = 0
        · refine ⟨[some o, some (.int (i : Nat)), some (.str (rowS (G.getD i []))), some (.int (j : Nat)), some (.str (dig c)), f], h', eg, .inl ?_, rfl, _, _, _, rfl⟩
          have ez : bNe (.str (dig c)) (.str "0") h' = .ok (.bl false) h' := by
            unfold bNe bEqG
            simp only [dat_str, dig_zero, z, decide_true, Bool.not_true]
          simp [sIf, bTest, eOp, eVar, eK, ez, sNil]
        · have c4 := c3 z
          have f1 := fig_ok D ho ((j : Int) + sx c) ((i : Int) + sy c)
          have l1 := M.lt ((j : Int) + sx c) ((i : Int) + sy c)
          have l2 := M.n5 ((j : Int) + sx c) ((i : Int) + sy c)
          generalize hm : cell G W H ((j : Int) + sx c) ((i : Int) + sy c) = m at c4 f1 l1 l2
          refine ⟨[some o, some (.int (i : Nat)), some (.str (rowS (G.getD i []))), some (.int (j : Nat)), some (.str (dig c)), some (.tup [.int (sx c), .int (sy c)])], h', eg, .inl ?_, rfl, _, _, _, rfl⟩
          have ez : bNe (.str (dig c)) (.str "0") h' = .ok (.bl true) h' := by
            unfold bNe bEqG
            simp only [dat_str, dig_zero, z, decide_false, Bool.not_false]
          have en : bNe (.int ((m : Int) + (c : Int))) (.int 10) h' = .ok (.bl false) h' := by
            unfold bNe bEqG
            have : (m : Int) + (c : Int) = 10 := by omega
            simp [dat_int, this, PyData.eqv]
          simp [sIf, bTest, eOp, eVar, eK, ez, sNil, sSeq, sSet, eIxK, sh_dig c c1 c2 z, eCall, aCons, aNil, bIx, atI, ixN, bAdd, f1, fInt_dig h' m l1 l2, fInt_dig h' c c1 c2, en])
    obtain ⟨rfl, d', e', f', rfl⟩ := q2
    exact ⟨d', e', f', q1⟩
  obtain ⟨τ', h', q1, q2⟩ := sFor_inv (mi := iEnumM (aCons (eFld 2 1 (eVar 0)) aNil)) (g := mgTup 2 (mgsCons (mgName 1) (mgsCons (mgName 2) mgsNil))) (body := (sFor (iEnumSM (aCons (eVar 2) aNil)) (mgTup 2 (mgsCons (mgName 3) (mgsCons (mgName 4) mgsNil))) (sIf (bTest (eOp bNe (eVar 4) (eK (.str "0")))) (sSeq (sSet 5 (eIxK kv_SHIFTS (eVar 4)))
  (sIf (bTest (eOp bNe (eOp bAdd (eCall fInt (aCons (eCall m_figure_at (aCons (eVar 0) (aCons (eOp bAdd (eVar 3) (eOp bIx (eVar 5) (eK (.int 0)))) (aCons (eOp bAdd (eVar 1) (eOp bIx (eVar 5) (eK (.int 1)))) aNil)))) aNil)) (eCall fInt (aCons (eVar 4) aNil))) (eK (.int 10)))) (sRet (eTup (aCons (eVar 3) (aCons (eVar 1) aNil)))) sNil)) sNil))) (τ := [some o, none, none, none, none, none]) (h := h) (h1 := h)
    (rd := fun h => (TL.listOf h (rowsT G)).map enumT) (ts := enumT (G.map fun r => .str (rowS r))) (fun _ τ h' => h' = h ∧ ∃ a b d e f, τ = [some o, a, b, d, e, f])
    (by simp [iEnumM, aCons, aNil, eFld, eVar, ho, rowsT, TL.listOf]) ⟨rfl, _, _, _, _, _, rfl⟩ (fun _ _ _ _ => rfl) (fun i hi τ h' I => by
      obtain ⟨rfl, a, b, d, e, f, rfl⟩ := I
      obtain ⟨hi2, ei⟩ := enum_at hi
      rw [ei]
      have hiG : i < G.length := by rw [List.length_map] at hi2; exact hi2
      have hiH : i < H := by rw [← D.len]; exact hiG
      obtain ⟨d', e', f', q⟩ := inner i hiH d e f
      have er : (G.map fun r => T.str (rowS r))[i] = .str (rowS (G.getD i [])) := by
        rw [List.getElem_map, List.getD_eq_getElem?_getD, List.getElem?_eq_getElem hiG]
        rfl
      rw [er]
      refine ⟨[some o, some (.int (i : Nat)), some (.str (rowS (G.getD i []))), d, e, f], h', _, h', ?_, .inl q, rfl, _, _, _, _, _, rfl⟩
      simp [mgTup, mgsCons, mgName, mgsNil])
  obtain ⟨rfl, a, b, d, e, f, rfl⟩ := q2
  have et : startT 6 [o] = [some o, none, none, none, none, none] := rfl
  simp only [m_first_wrong, s_first_wrong, defM, List.length_cons, List.length_nil, Nat.reduceAdd, if_true, et, sSeq, q1, sRet, eK]
theorem mut_digs (D : Dim G W H) (M : Mut G W H) : Digs G := by
  have key : ∀ r ∈ G, ∀ d ∈ r, ∃ x y, cell G W H x y = d := by
    intro r hr d hd
    obtain ⟨i, hi, rfl⟩ := List.getElem_of_mem hr
    obtain ⟨j, hj, rfl⟩ := List.getElem_of_mem hd
    have hiH : i < H := by rw [← D.len]; exact hi
    have hjW : j < W := by rw [← D.row _ hr]; exact hj
    refine ⟨(j : Int), (i : Int), ?_⟩
    rw [cell_nat D hiH hjW, List.getD_eq_getElem?_getD, List.getD_eq_getElem?_getD, List.getElem?_eq_getElem hi]
    simp only [Option.getD_some]
    rw [List.getElem?_eq_getElem hj]
    rfl
  refine ⟨fun r hr d hd => ?_, fun r hr d hd => ?_⟩ <;> obtain ⟨x, y, rfl⟩ := key r hr d hd
  · exact M.lt x y
  · exact M.n5 x y
/-- the pattern -/
def pat (G : List (List Nat)) : T := .obj 2 [.str (spell G), rowsT G]
theorem rowsT_low (G : List (List Nat)) (n : Nat) : (rowsT G).lowR n = true := by
  unfold rowsT
  simp only [T.lowR]
  induction G with
  | nil => rfl
  | cons r G ih => simp [lowRs, T.lowR, ih]
theorem make_ok (D : Dim G W H) (M : Mut G W H) {h : VH} (hl : h.all (VO.lowR h.length) = true) : cutM (makeM 2 m_Pattern___init__) [.str (spell G)] h = .ok (pat G) h := by
  have A := mut_digs D M
  have r1 := rows_ok D A (h ++ [.ins 2 []])
  have g0 : (h ++ [VO.ins 2 []])[h.length]? = some (.ins 2 []) := by simp
  have s1 : (h ++ [VO.ins 2 []]).set h.length (.ins 2 [.str (spell G)]) = h ++ [.ins 2 [.str (spell G)]] := by simp
  have g1 : (h ++ [VO.ins 2 [.str (spell G)]])[h.length]? = some (.ins 2 [.str (spell G)]) := by simp
  have s2 : (h ++ [VO.ins 2 [.str (spell G)]]).set h.length (.ins 2 [.str (spell G), rowsT G]) = h ++ [.ins 2 [.str (spell G), rowsT G]] := by simp
  have g2 : getI (h ++ [VO.ins 2 [.str (spell G), rowsT G]]) (.ref h.length) = some (2, [.str (spell G), rowsT G]) := by simp [getI]
  have f1 := first_ok D M g2
  have hm : m_Pattern___init__ [.ref h.length, .str (spell G)] (h ++ [.ins 2 []]) = .ok .non (h ++ [.ins 2 [.str (spell G), rowsT G]]) := by
    have ei : bIs (rowsT G) .non (h ++ [.ins 2 []]) = .ok (.bl false) (h ++ [.ins 2 []]) := rfl
    have ej : bIsn .non .non (h ++ [.ins 2 [.str (spell G), rowsT G]]) = .ok (.bl false) (h ++ [.ins 2 [.str (spell G), rowsT G]]) := rfl
    simp [m_Pattern___init__, s_Pattern___init__, defM, startT, sSeq, sSet, sIf, sNil, sBad, bTest, eOp, eK, eVar, eCall, aCons, aNil, r1, ei, ej, sAsg, eTup, mgTup, mgsCons, mgFld, mgsNil, g0, s1, g1, s2, f1]
  have ht : (h ++ [VO.ins 2 [.str (spell G), rowsT G]]).take h.length = h := by simp
  have fz : frz h.length (h ++ [.ins 2 [.str (spell G), rowsT G]]) 4 (.ref h.length) = some (pat G) := by
    have l1 : T.lowR h.length (.ref h.length) = false := by simp [T.lowR]
    have l2 : T.lowR h.length (.str (spell G)) = true := rfl
    have g3 : (h ++ [VO.ins 2 [.str (spell G), rowsT G]])[h.length]? = some (.ins 2 [.str (spell G), rowsT G]) := by simp
    have k1 : frz h.length (h ++ [.ins 2 [.str (spell G), rowsT G]]) 3 (.str (spell G)) = some (.str (spell G)) := by unfold frz; rw [if_pos l2]
    have k2 : frz h.length (h ++ [.ins 2 [.str (spell G), rowsT G]]) 3 (rowsT G) = some (rowsT G) := by unfold frz; rw [if_pos (rowsT_low G _)]
    unfold frz
    rw [l1]
    simp only [Bool.false_eq_true, if_false, g3]
    simp [k1, k2, pat]
  unfold cutM makeM
  rw [hm]
  simp only [ht, hl, fz, if_true]
end
end K33

set_option Elab.async false
set_option linter.all false
set_option maxRecDepth 100000
set_option maxHeartbeats 400000
namespace K33
open PySem L2 TL KG
/-- a way: its word, the figure ahead -/
structure Way (w : Str) (a : Nat) : Prop where
  at_ : kv_AHEAD.lookup w = some (.str (dig a))
  lt : a < 10
  n5 : a ≠ 5
  n0 : a ≠ 0
theorem dig_eqv (d a : Nat) : PyData.eqv (.str (dig d)) (.str (dig a)) = decide (d = a) := by
  simp only [PyData.eqv]
  rw [W.beq_decide]
  refine decide_eq_decide.mpr ⟨fun z => ?_, fun z => by rw [z]⟩
  have := congrArg (fun s : Str => s.cps.toList) z
  simp [dig] at this
  exact this
theorem sx_small (a : Nat) : -2 < sx a ∧ sx a < 2 := by unfold sx; split <;> decide
theorem sy_small (a : Nat) : -2 < sy a ∧ sy a < 2 := by unfold sy; split <;> decide
theorem cmul_r {i j : Int} (h : -1000 < j) (h2 : j < 1000) : cMul i j = true := by
  unfold cMul
  rw [Bool.or_eq_true, Bool.and_eq_true, Bool.and_eq_true]
  exact .inr ⟨decide_eq_true (by omega), decide_eq_true (by omega)⟩
section
variable {G : List (List Nat)} {W H : Nat}
/-- the k-th cell along -/
def al (G : List (List Nat)) (W H a : Nat) (x y : Int) (k : Nat) : Nat := cell G W H (x + k * sx a) (y + k * sy a)
def spots (G : List (List Nat)) (W H a : Nat) (x y : Int) : List Nat := (List.range' 0 (H * W)).filter fun k => decide (al G W H a x y k = a)
theorem enum_range (n : Nat) (g : Nat → T) : enumT ((List.range n).map g) = (List.range n).map fun k => .tup [.int (k : Nat), g k] := by
  apply List.ext_getElem
  · simp [enumT]
  · intro i h1 h2
    simp [enumT]
theorem cell_step {o : T} {w : Str} {x y p q : Int} {n : Int} {u0 d : Option T} {h : VH} {i : Int} (cx : cMul i p = true) (cy : cMul i q = true) {r : T} (f : m_figure_at [o, .int (x + i * p), .int (y + i * q)] h = .ok r h) :
  eCall m_figure_at (aCons (eVar 0) (aCons (eOp TL.bAdd (eVar 2) (eOp TL.bMul (eVar 7) (eOp TL.bIx (eVar 4) (eK (.int 0))))) (aCons (eOp TL.bAdd (eVar 3) (eOp TL.bMul (eVar 7) (eOp TL.bIx (eVar 4) (eK (.int 1))))) aNil))) [some o, some (.str w), some (.int x), some (.int y), some (.tup [.int p, .int q]), some (.int n), u0, some (.int i), d] h = .ok r h := by
  have i0 : atI [T.int p, T.int q] 0 = some (.int p) := rfl
  have i1 : atI [T.int p, T.int q] 1 = some (.int q) := rfl
  simp only [eCall, aCons, aNil, eOp, eK, eVar, List.getElem?_cons_succ, List.getElem?_cons_zero, TL.bAdd, TL.bMul, TL.bIx, i0, i1, cx, cy, if_true, f]
theorem round_ok (D : Dim G W H) {w : Str} {a : Nat} (Wy : Way w a) {o u : T} {h : VH} (ho : getI h o = some (2, [u, rowsT G])) (x y : Int) :
    m_round_from [o, .str w, .int x, .int y] h = .ok (.tup [.lst ((spots G W H a x y).map fun k => .int (k : Nat)), .int ((H * W : Nat) : Int)]) h := by
  have h0 := D.h0
  have h1 := D.h1
  have w0 := D.w0
  have w1 := D.w1
  have hn : H * W ≤ 144 := Nat.le_trans (Nat.mul_le_mul h1 w1) (by omega)
  obtain ⟨x1, x2⟩ := sx_small a
  obtain ⟨y1, y2⟩ := sy_small a
  have sh := sh_dig a Wy.lt Wy.n5 Wy.n0
  have er : (G.map fun r => T.str (rowS r)).length = H := by rw [List.length_map, D.len]
  obtain ⟨r0, er0, hr0⟩ : ∃ r0, atI (G.map fun r => T.str (rowS r)) 0 = some (.str (rowS r0)) ∧ r0 ∈ G := by
    rw [ix_nn (Int.le_refl _) (by rw [er]; omega), List.getElem?_map]
    have : (0 : Nat) < G.length := by rw [D.len]; exact h0
    refine ⟨G[0], ?_, List.getElem_mem this⟩
    show Option.map _ G[0]? = _
    rw [List.getElem?_eq_getElem this]
    rfl
  have el0 : (rowS r0).length = W := by rw [rowS_len, D.row r0 hr0]
  have cm : cMul (H : Int) (W : Int) = true := cmul_r (by omega) (by omega)
  have ei : ((H : Int) * (W : Int)) = ((H * W : Nat) : Int) := by simp
  have ho' := ho
  unfold rowsT at ho'
  have cells : ∀ c d, mLc (iRange1 (aCons (eVar 5) aNil)) [7] (mgName 7) bYes (eCall m_figure_at (aCons (eVar 0) (aCons (eOp TL.bAdd (eVar 2) (eOp TL.bMul (eVar 7) (eOp TL.bIx (eVar 4) (eK (.int 0))))) (aCons (eOp TL.bAdd (eVar 3) (eOp TL.bMul (eVar 7) (eOp TL.bIx (eVar 4) (eK (.int 1))))) aNil))))
      [some o, some (.str w), some (.int x), some (.int y), some (.tup [.int (sx a), .int (sy a)]), some (.int ((H * W : Nat) : Int)), none, c, d] h = .ok ((List.range (H * W)).map fun k => .str (dig (al G W H a x y k))) h := by
    intro c d
    have z := mLc_map (mi := iRange1 (aCons (eVar 5) aNil)) (ws := [7]) (g := mgName 7) (e := eCall m_figure_at (aCons (eVar 0) (aCons (eOp TL.bAdd (eVar 2) (eOp TL.bMul (eVar 7) (eOp TL.bIx (eVar 4) (eK (.int 0))))) (aCons (eOp TL.bAdd (eVar 3) (eOp TL.bMul (eVar 7) (eOp TL.bIx (eVar 4) (eK (.int 1))))) aNil))))
      (τ := [some o, some (.str w), some (.int x), some (.int y), some (.tup [.int (sx a), .int (sy a)]), some (.int ((H * W : Nat) : Int)), none, c, d]) (h := h) (rd := fun _ => some (rangeT 0 (H * W))) (ts := rangeT 0 (H * W))
      (by simp only [iRange1, aCons, aNil, eVar, List.getElem?_cons_succ, List.getElem?_cons_zero]; rw [if_pos ⟨by omega, by omega⟩, Int.toNat_natCast]) rfl (by rw [range_len]; omega)
      (fun t => match t with | .int k => .str (dig (al G W H a x y k.toNat)) | t => t) (fun t ht => by
        obtain ⟨i, hi, rfl⟩ := List.getElem_of_mem ht
        obtain ⟨hi2, ei⟩ := range_at hi
        rw [ei, Int.zero_add]
        have cx : cMul (i : Int) (sx a) = true := cmul_r (by omega) (by omega)
        have cy : cMul (i : Int) (sy a) = true := cmul_r (by omega) (by omega)
        exact ⟨[some o, some (.str w), some (.int x), some (.int y), some (.tup [.int (sx a), .int (sy a)]), some (.int ((H * W : Nat) : Int)), none, some (.int (i : Nat)), d], rfl, cell_step cx cy (fig_ok D ho (x + i * sx a) (y + i * sy a))⟩)
    rw [z]
    unfold rangeT
    rw [List.map_map]
    refine congrArg (fun l => Res.ok l h) ?_
    refine List.map_congr_left fun k _ => ?_
    simp [Function.comp]
  have ss : ∀ c d, mLc (iEnumM (aCons (eVar 6) aNil)) [7, 8] (mgTup 2 (mgsCons (mgName 7) (mgsCons (mgName 8) mgsNil))) (bTest (eOp bEq (eVar 8) (eIxK kv_AHEAD (eVar 1)))) (eVar 7)
      [some o, some (.str w), some (.int x), some (.int y), some (.tup [.int (sx a), .int (sy a)]), some (.int ((H * W : Nat) : Int)), some (.lst ((List.range (H * W)).map fun k => .str (dig (al G W H a x y k)))), c, d] h = .ok ((spots G W H a x y).map fun k => .int (k : Nat)) h := by
    intro c d
    have z := mLc_pure (mi := iEnumM (aCons (eVar 6) aNil)) (ws := [7, 8]) (g := mgTup 2 (mgsCons (mgName 7) (mgsCons (mgName 8) mgsNil))) (c := bTest (eOp bEq (eVar 8) (eIxK kv_AHEAD (eVar 1)))) (e := eVar 7)
      (τ := [some o, some (.str w), some (.int x), some (.int y), some (.tup [.int (sx a), .int (sy a)]), some (.int ((H * W : Nat) : Int)), some (.lst ((List.range (H * W)).map fun k => .str (dig (al G W H a x y k)))), c, d]) (h := h)
      (rd := fun h => (TL.listOf h (.lst ((List.range (H * W)).map fun k => .str (dig (al G W H a x y k))))).map enumT) (ts := enumT ((List.range (H * W)).map fun k => .str (dig (al G W H a x y k))))
      (by simp [iEnumM, aCons, aNil, eVar, TL.listOf]) (by simp [TL.listOf]) (by rw [enum_len, List.length_map, List.length_range]; omega)
      (fun t => match t with | .tup [_, .str s] => PyData.eqv (.str s) (.str (dig a)) | _ => false) (fun t => match t with | .tup [i, _] => i | t => t) (fun t ht => by
        rw [enum_range] at ht
        obtain ⟨k, hk, rfl⟩ := List.mem_map.mp ht
        refine ⟨[some o, some (.str w), some (.int x), some (.int y), some (.tup [.int (sx a), .int (sy a)]), some (.int ((H * W : Nat) : Int)), some (.lst ((List.range (H * W)).map fun k => .str (dig (al G W H a x y k)))), some (.int (k : Nat)), some (.str (dig (al G W H a x y k)))], ?_, ?_, fun _ => ?_⟩
        · simp [mgTup, mgsCons, mgName, mgsNil, wipeT]
        · simp [bTest, eOp, eVar, eIxK, Wy.at_, bEq, bEqG, dat_str]
        · simp [eVar])
    rw [z, enum_range, List.filter_map, List.map_map]
    unfold spots
    rw [← List.range_eq_range']
    refine congrArg (fun l => Res.ok l h) ?_
    have : ((fun t => match t with | T.tup [_, .str s] => PyData.eqv (.str s) (.str (dig a)) | _ => false) ∘ fun k => T.tup [T.int (k : Nat), T.str (dig (al G W H a x y k))]) = fun k => decide (al G W H a x y k = a) := funext fun k => dig_eqv _ _
    rw [this]
    rfl
  have a1 : sAsg (eTup (aCons (eIxK kv_SHIFTS (eIxK kv_AHEAD (eVar 1))) (aCons (eOp TL.bMul (eCall fLen (aCons (eFld 2 1 (eVar 0)) aNil)) (eCall fLen (aCons (eOp TL.bIx (eFld 2 1 (eVar 0)) (eK (.int 0))) aNil))) aNil))) (mgTup 2 (mgsCons (mgName 4) (mgsCons (mgName 5) mgsNil)))
      [some o, some (.str w), some (.int x), some (.int y), none, none, none, none, none] h = .nx [some o, some (.str w), some (.int x), some (.int y), some (.tup [.int (sx a), .int (sy a)]), some (.int ((H * W : Nat) : Int)), none, none, none] h := by
    have b1 : eOp TL.bMul (eCall fLen (aCons (eFld 2 1 (eVar 0)) aNil)) (eCall fLen (aCons (eOp TL.bIx (eFld 2 1 (eVar 0)) (eK (.int 0))) aNil)) [some o, some (.str w), some (.int x), some (.int y), none, none, none, none, none] h = .ok (.int ((H * W : Nat) : Int)) h := by
      simp only [eOp, eCall, aCons, aNil, eFld, eVar, eK, List.getElem?_cons_succ, List.getElem?_cons_zero, ho', if_true, fLen, seqOf, TL.listOf, er, TL.bIx, er0, el0, TL.bMul, cm, ei]
    simp only [sAsg, eTup, aCons, aNil, eIxK, b1, eVar, List.getElem?_cons_succ, List.getElem?_cons_zero, Wy.at_, sh, mgTup, mgsCons, mgsNil, mgName, List.length_cons, List.length_nil, Nat.reduceAdd, Nat.reduceLeDiff, List.set_cons_succ, List.set_cons_zero, if_true]
  have t0 : startT 9 [o, .str w, .int x, .int y] = [some o, some (.str w), some (.int x), some (.int y), none, none, none, none, none] := rfl
  simp only [m_round_from, s_round_from, defM, List.length_cons, List.length_nil, Nat.reduceAdd, if_true, t0, sSeq, a1, sSet, eL, cells, List.set_cons_succ, List.set_cons_zero, sRet, eTup, aCons, aNil, ss, eVar, List.getElem?_cons_succ, List.getElem?_cons_zero, Nat.reduceLeDiff]
end
end K33

set_option Elab.async false
set_option linter.all false
set_option maxRecDepth 100000
set_option maxHeartbeats 400000
namespace K33
open PySem L2 TL KG
section
variable {G : List (List Nat)} {W H : Nat}
theorem cell_congr {x x' y y' : Int} (hx : x % W = x' % W) (hy : y % H = y' % H) : cell G W H x y = cell G W H x' y' := by
  unfold cell rowAt
  rw [hx, hy]
theorem al_per (a : Nat) (x y : Int) (k : Nat) : al G W H a x y (k + H * W) = al G W H a x y k := by
  unfold al
  apply cell_congr
  · have : x + ((k + H * W : Nat) : Int) * sx a = x + k * sx a + W * (H * sx a) := by
      rw [Int.natCast_add, Int.natCast_mul, Int.add_mul, Int.mul_comm (H : Int) W, Int.mul_assoc]; omega
    rw [this, Int.add_mul_emod_self_left]
  · have : y + ((k + H * W : Nat) : Int) * sy a = y + k * sy a + H * (W * sy a) := by
      rw [Int.natCast_add, Int.natCast_mul, Int.add_mul, Int.mul_assoc]; omega
    rw [this, Int.add_mul_emod_self_left]
/-- where the figure stands -/
def St (G : List (List Nat)) (W H a : Nat) (x y : Int) : Prop := cell G W H x y = a
theorem al_at (a : Nat) (x y : Int) (k : Nat) : St G W H a (x + k * sx a) (y + k * sy a) ↔ al G W H a x y k = a := Iff.rfl
theorem gaps_ok {a : Nat} {x y : Int} {l0 : Nat} {r : List Nat} (hs : spots G W H a x y = l0 :: r) : ∀ q ∈ nexts (spots G W H a x y) (l0 + H * W), q.1 < q.2 ∧ Gap (St G W H a) (sx a) (sy a) (x + q.1 * sx a) (y + q.1 * sy a) (q.2 - q.1) := by
  have hh := head_low (P := fun k => decide (al G W H a x y k = a)) (H * W) 0 l0 r hs
  obtain ⟨_, h1, h2, h3⟩ := hh
  have he : decide (al G W H a x y (l0 + H * W) = a) = true := by rw [al_per]; exact h2
  rintro ⟨u, v⟩ hq
  obtain ⟨k1, k2, k3, k4⟩ := nexts_ok (P := fun k => decide (al G W H a x y k = a)) (l0 + H * W) he (H * W) 0 (by omega) (fun j j1 j2 => by
    have : j = (j - H * W) + H * W := by omega
    rw [this, al_per]
    exact h3 _ (Nat.zero_le _) (by omega)) u v hq
  have e : ∀ (s z : Int) (j : Nat), z + u * s + j * s = z + ((u + j : Nat) : Int) * s := fun s z j => by rw [Int.natCast_add, Int.add_mul]; omega
  have k2' : al G W H a x y u = a := of_decide_eq_true k2
  have k3' : al G W H a x y v = a := of_decide_eq_true k3
  refine ⟨k1, Nat.sub_pos_of_lt k1, k2', ?_, fun j j0 j1 => ?_⟩
  · show St G W H a (x + u * sx a + ((v - u : Nat) : Int) * sx a) (y + u * sy a + ((v - u : Nat) : Int) * sy a)
    rw [e, e]
    have : u + (v - u) = v := by omega
    rw [this]
    exact k3'
  · show ¬ St G W H a (x + u * sx a + (j : Int) * sx a) (y + u * sy a + (j : Int) * sy a)
    rw [e, e]
    have j2 : j < v - u := j1
    have k5 : ¬ al G W H a x y (u + j) = a := of_decide_eq_false (k4 (u + j) (by omega) (by omega))
    exact k5
/-- the gaps, as numbers -/
def gaps (G : List (List Nat)) (W H a : Nat) (x y : Int) (l0 : Nat) : List Int := (nexts (spots G W H a x y) (l0 + H * W)).map fun q => (q.2 : Int) - (q.1 : Int)
theorem dat_ints (h : VH) (k : Nat) (l : List Nat) : T.dat h (k + 1) (.lst (l.map fun k => .int (k : Nat))) = some (.list (l.map fun k => .int (k : Nat))) := by
  rw [dat_lst, List.mapM_map]
  have : l.mapM (fun a => T.dat h k (.int (a : Nat))) = some (l.map fun k => PyData.int (k : Nat)) := mapM_some fun a _ => dat_int
  rw [show (T.dat h k ∘ fun k : Nat => T.int (k : Nat)) = fun a => T.dat h k (.int (a : Nat)) from rfl, this]
  rfl
abbrev gapsE : MA := mLc (iZipM (aCons (eVar 5) (aCons (eL (aLim (aStar (eSl (eVar 5) (oSome (eK (.int 1))) oNo) (aCons (eOp TL.bAdd (eOp TL.bIx (eVar 5) (eK (.int 0))) (eVar 6)) aNil)))) aNil))) [8, 9] (mgTup 2 (mgsCons (mgName 8) (mgsCons (mgName 9) mgsNil))) bYes (eOp TL.bSub (eVar 9) (eVar 8))
theorem zip_pairs (l : List Nat) (e : Nat) : zipT (l.map fun k => T.int (k : Nat)) ((l.map fun k => T.int (k : Nat)).drop 1 ++ [T.int ((e : Nat) : Int)]) = (nexts l e).map fun q => T.tup [T.int (q.1 : Nat), T.int (q.2 : Nat)] := by
  rw [← nexts_zip]
  unfold zipT
  rw [← List.map_drop]
  have : [T.int ((e : Nat) : Int)] = [e].map fun k => T.int (k : Nat) := rfl
  rw [this, ← List.map_append, List.zipWith_map, List.zip, List.map_zipWith]
theorem gaps_run {a : Nat} {x y : Int} {l0 : Nat} {r : List Nat} (hs : spots G W H a x y = l0 :: r) (hz : (spots G W H a x y).length ≤ 144) (c0 c1 c2 c3 c4 c7 c8 c9 : Option T) (h : VH) :
    gapsE [c0, c1, c2, c3, c4, some (.lst ((spots G W H a x y).map fun k => .int (k : Nat))), some (.int ((H * W : Nat) : Int)), c7, c8, c9] h = .ok ((gaps G W H a x y l0).map T.int) h := by
  have i0 : atI ((spots G W H a x y).map fun k => T.int (k : Nat)) 0 = some (.int (l0 : Nat)) := by
    rw [hs, ix_nn (Int.le_refl _) (by rw [List.length_map, List.length_cons]; omega)]
    rfl
  have ee : ((l0 : Nat) : Int) + ((H * W : Nat) : Int) = ((l0 + H * W : Nat) : Int) := by rw [Int.natCast_add]
  have zp := zip_pairs (spots G W H a x y) (l0 + H * W)
  have hl : (nexts (spots G W H a x y) (l0 + H * W)).length ≤ 16777216 := by
    rw [← nexts_zip]
    simp only [List.length_zip]
    omega
  have ea : aCons (eVar 5) (aCons (eL (aLim (aStar (eSl (eVar 5) (oSome (eK (.int 1))) oNo) (aCons (eOp TL.bAdd (eOp TL.bIx (eVar 5) (eK (.int 0))) (eVar 6)) aNil)))) aNil) [c0, c1, c2, c3, c4, some (.lst ((spots G W H a x y).map fun k => .int (k : Nat))), some (.int ((H * W : Nat) : Int)), c7, c8, c9] h =
      .ok [.lst ((spots G W H a x y).map fun k => .int (k : Nat)), T.lst (((spots G W H a x y).map fun k => T.int (k : Nat)).drop 1 ++ [T.int ((l0 + H * W : Nat) : Int)])] h := by
    have q : (((spots G W H a x y).map fun k => T.int (k : Nat)).drop 1 ++ [T.int ((l0 + H * W : Nat) : Int)]).length ≤ 16777216 := by
      rw [List.length_append, List.length_drop, List.length_map]; simp only [List.length_singleton]; omega
    simp only [aCons, aNil, eL, aLim, aStar, eSl, oSome, oNo, eOp, eVar, eK, List.getElem?_cons_succ, List.getElem?_cons_zero, bSl, TL.listOf, cut1, seqOf, TL.bIx, i0, TL.bAdd, ee, q, if_true]
  have z := mLc_map (mi := iZipM (aCons (eVar 5) (aCons (eL (aLim (aStar (eSl (eVar 5) (oSome (eK (.int 1))) oNo) (aCons (eOp TL.bAdd (eOp TL.bIx (eVar 5) (eK (.int 0))) (eVar 6)) aNil)))) aNil))) (ws := [8, 9]) (g := mgTup 2 (mgsCons (mgName 8) (mgsCons (mgName 9) mgsNil))) (e := eOp TL.bSub (eVar 9) (eVar 8))
    (τ := [c0, c1, c2, c3, c4, some (.lst ((spots G W H a x y).map fun k => .int (k : Nat))), some (.int ((H * W : Nat) : Int)), c7, c8, c9]) (h := h)
    (rd := fun h => match TL.listOf h (.lst ((spots G W H a x y).map fun k => .int (k : Nat))), TL.listOf h (T.lst (((spots G W H a x y).map fun k => T.int (k : Nat)).drop 1 ++ [T.int ((l0 + H * W : Nat) : Int)])) with | some ts, some us => some (zipT ts us) | _, _ => none)
    (ts := (nexts (spots G W H a x y) (l0 + H * W)).map fun q => T.tup [T.int (q.1 : Nat), T.int (q.2 : Nat)])
    (by unfold iZipM; rw [ea]; simp [TL.listOf]) (by simp only [TL.listOf]; rw [zp]) (by rw [List.length_map]; exact hl)
    (fun t => match t with | .tup [.int u, .int v] => T.int (v - u) | t => t) (fun t ht => by
      obtain ⟨q, hq, rfl⟩ := List.mem_map.mp ht
      refine ⟨[c0, c1, c2, c3, c4, some (.lst ((spots G W H a x y).map fun k => .int (k : Nat))), some (.int ((H * W : Nat) : Int)), c7, some (.int (q.1 : Nat)), some (.int (q.2 : Nat))], ?_, ?_⟩
      · simp only [mgTup, mgsCons, mgName, mgsNil, wipeT, List.length_cons, List.length_nil, Nat.reduceAdd, if_true, List.set_cons_succ, List.set_cons_zero]
      · simp only [eOp, eVar, List.getElem?_cons_succ, List.getElem?_cons_zero, TL.bSub, bI0])
  refine z.trans ?_
  unfold gaps
  rw [List.map_map, List.map_map]
  rfl
abbrev bodyE : MS := (sSeq (sAsg (eCall m_round_from (aCons (eVar 0) (aCons (eVar 1) (aCons (eVar 4) (aCons (eVar 3) aNil))))) (mgTup 2 (mgsCons (mgName 5) (mgsCons (mgName 6) mgsNil))))
  (sSeq (sIf (bTest (eOp TL.bEq (eVar 5) (eL (aLim aNil)))) (sRet (eK .non)) sNil)
  (sSeq (sSet 7 (eL gapsE))
  (sSet 2 (eCall fMax (aCons (eL (aLim (aCons (eVar 2) (aStar (eVar 7) aNil)))) aNil))))))
theorem eqv_nil (l : List Nat) : PyData.eqv (.list (l.map fun k => .int (k : Nat))) (.list []) = decide (l = []) := by
  cases l <;> simp [PyData.eqv, PyData.eqvAll]
theorem turn_ok (D : Dim G W H) {w : Str} {a : Nat} (Wy : Way w a) {o u : T} {h : VH} (ho : getI h o = some (2, [u, rowsT G])) (x y b : Int) (c5 c6 c7 c8 c9 : Option T) :
    (spots G W H a x y = [] ∧ bodyE [some o, some (.str w), some (.int b), some (.int y), some (.int x), c5, c6, c7, c8, c9] h = .rt .non h) ∨
    ∃ l0 r, spots G W H a x y = l0 :: r ∧ ∃ d5 d6 d7, bodyE [some o, some (.str w), some (.int b), some (.int y), some (.int x), c5, c6, c7, c8, c9] h = .nx [some o, some (.str w), some (.int ((gaps G W H a x y l0).foldl max b)), some (.int y), some (.int x), d5, d6, d7, c8, c9] h := by
  have ro := round_ok D Wy ho x y
  have hz : (spots G W H a x y).length ≤ 144 := by
    unfold spots
    refine Nat.le_trans (List.length_filter_le _ _) ?_
    rw [List.length_range']
    exact Nat.le_trans (Nat.mul_le_mul D.h1 D.w1) (by omega)
  have s1 : sAsg (eCall m_round_from (aCons (eVar 0) (aCons (eVar 1) (aCons (eVar 4) (aCons (eVar 3) aNil))))) (mgTup 2 (mgsCons (mgName 5) (mgsCons (mgName 6) mgsNil))) [some o, some (.str w), some (.int b), some (.int y), some (.int x), c5, c6, c7, c8, c9] h =
      .nx [some o, some (.str w), some (.int b), some (.int y), some (.int x), some (.lst ((spots G W H a x y).map fun k => .int (k : Nat))), some (.int ((H * W : Nat) : Int)), c7, c8, c9] h := by
    simp only [sAsg, eCall, aCons, aNil, eVar, List.getElem?_cons_succ, List.getElem?_cons_zero, ro, mgTup, mgsCons, mgName, mgsNil, List.length_cons, List.length_nil, Nat.reduceAdd, if_true, List.set_cons_succ, List.set_cons_zero]
  have d1 := dat_ints h 9 (spots G W H a x y)
  have d2 : T.dat h 10 (.lst []) = some (.list []) := rfl
  cases hs : spots G W H a x y with
  | nil =>
    refine .inl ⟨rfl, ?_⟩
    have eb : TL.bEq (.lst ((spots G W H a x y).map fun k => .int (k : Nat))) (.lst []) h = .ok (.bl true) h := by
      unfold TL.bEq bEqG
      rw [d1, d2]
      simp only [eqv_nil, hs, decide_true]
    simp only [bodyE, sSeq, s1, sIf, bTest, eOp, eVar, eL, aLim, aNil, List.getElem?_cons_succ, List.getElem?_cons_zero, List.length_nil, Nat.zero_le, if_true, eb, sRet, eK]
  | cons l0 r =>
    refine .inr ⟨l0, r, rfl, some (.lst ((spots G W H a x y).map fun k => .int (k : Nat))), some (.int ((H * W : Nat) : Int)), some (.lst ((gaps G W H a x y l0).map T.int)), ?_⟩
    have eb : TL.bEq (.lst ((spots G W H a x y).map fun k => .int (k : Nat))) (.lst []) h = .ok (.bl false) h := by
      unfold TL.bEq bEqG
      rw [d1, d2]
      have ne : spots G W H a x y ≠ [] := by rw [hs]; simp
      simp only [eqv_nil, ne, decide_false]
    have g := gaps_run hs hz (some o) (some (.str w)) (some (.int b)) (some (.int y)) (some (.int x)) c7 c8 c9 h
    have hm : fMax [.lst (.int b :: (gaps G W H a x y l0).map T.int)] h = .ok (.int ((gaps G W H a x y l0).foldl max b)) h := by
      have e : intsOf (.int b :: (gaps G W H a x y l0).map T.int) = some (b :: gaps G W H a x y l0) := by
        show (intsOf _).map _ = _
        rw [intsOf_map]
        rfl
      simp only [fMax, fInts, TL.listOf, e, maxI]
    have hl : (T.int b :: (gaps G W H a x y l0).map T.int).length ≤ 16777216 := by
      rw [List.length_cons, List.length_map]
      unfold gaps
      rw [List.length_map, ← nexts_zip]
      simp only [List.length_zip]
      omega
    have s3 : sSet 7 (eL gapsE) [some o, some (.str w), some (.int b), some (.int y), some (.int x), some (.lst ((spots G W H a x y).map fun k => .int (k : Nat))), some (.int ((H * W : Nat) : Int)), c7, c8, c9] h = .nx [some o, some (.str w), some (.int b), some (.int y), some (.int x), some (.lst ((spots G W H a x y).map fun k => .int (k : Nat))), some (.int ((H * W : Nat) : Int)), some (.lst ((gaps G W H a x y l0).map T.int)), c8, c9] h := by
      unfold sSet eL
      rw [g]
      rfl
    have s2 : sIf (bTest (eOp TL.bEq (eVar 5) (eL (aLim aNil)))) (sRet (eK .non)) sNil [some o, some (.str w), some (.int b), some (.int y), some (.int x), some (.lst ((spots G W H a x y).map fun k => .int (k : Nat))), some (.int ((H * W : Nat) : Int)), c7, c8, c9] h = .nx [some o, some (.str w), some (.int b), some (.int y), some (.int x), some (.lst ((spots G W H a x y).map fun k => .int (k : Nat))), some (.int ((H * W : Nat) : Int)), c7, c8, c9] h := by
      simp only [sIf, bTest, eOp, eVar, eL, aLim, aNil, List.getElem?_cons_succ, List.getElem?_cons_zero, List.length_nil, Nat.zero_le, if_true, eb, sNil]
    have s4 : sSet 2 (eCall fMax (aCons (eL (aLim (aCons (eVar 2) (aStar (eVar 7) aNil)))) aNil)) [some o, some (.str w), some (.int b), some (.int y), some (.int x), some (.lst ((spots G W H a x y).map fun k => .int (k : Nat))), some (.int ((H * W : Nat) : Int)), some (.lst ((gaps G W H a x y l0).map T.int)), c8, c9] h =
        .nx [some o, some (.str w), some (.int ((gaps G W H a x y l0).foldl max b)), some (.int y), some (.int x), some (.lst ((spots G W H a x y).map fun k => .int (k : Nat))), some (.int ((H * W : Nat) : Int)), some (.lst ((gaps G W H a x y l0).map T.int)), c8, c9] h := by
      simp only [sSet, eCall, aCons, aNil, aStar, eL, aLim, eVar, seqOf, TL.listOf, List.append_nil, List.getElem?_cons_succ, List.getElem?_cons_zero, hl, if_true, hm, List.set_cons_succ, List.set_cons_zero]
    unfold bodyE sSeq
    rw [s1]
    simp only []
    rw [s2]
    simp only []
    rw [s3]
    exact s4
end
end K33

set_option Elab.async false
set_option linter.all false
set_option maxRecDepth 100000
set_option maxHeartbeats 400000
namespace K33
open PySem L2 TL KG
def optT : Option Nat → T
  | none => .non
  | some M => .int (M : Nat)
section
variable {G : List (List Nat)} {W H : Nat}
theorem Gap.uniq {S : Int → Int → Prop} {dx dy x y : Int} {m m' : Nat} (h : Gap S dx dy x y m) (h' : Gap S dx dy x y m') : m = m' := by
  obtain ⟨a0, _, a2, a3⟩ := h
  obtain ⟨b0, _, b2, b3⟩ := h'
  rcases Nat.lt_trichotomy m m' with q | q | q
  · exact (b3 m a0 q a2).elim
  · exact q
  · exact (a3 m' b0 q b2).elim
theorem st_mod (a : Nat) (x y s t : Int) : St G W H a (x % W + s) (y % H + t) ↔ St G W H a (x + s) (y + t) := by
  unfold St
  rw [cell_congr (x := x % W + s) (x' := x + s) (y := y % H + t) (y' := y + t) (by rw [Int.emod_add_emod]) (by rw [Int.emod_add_emod])]
theorem gap_mod {a : Nat} {x y dx dy : Int} {m : Nat} (g : Gap (St G W H a) dx dy x y m) : Gap (St G W H a) dx dy (x % W) (y % H) m := by
  obtain ⟨h0, h1, h2, h3⟩ := g
  refine ⟨h0, ?_, (st_mod a x y _ _).mpr h2, fun j j0 j1 z => h3 j j0 j1 ((st_mod a x y _ _).mp z)⟩
  have := (st_mod (G := G) (W := W) (H := H) a x y 0 0)
  simp only [Int.add_zero] at this
  exact this.mpr h1
/-- what the largest gap is like so far -/
def Good (G : List (List Nat)) (W H a : Nat) (b : Int) (done : Int → Int → Prop) : Prop :=
  (∃ n : Nat, b = n ∧ (n = 0 ∨ ∃ x y, Gap (St G W H a) (sx a) (sy a) x y n)) ∧ ∀ x y, done x y → spots G W H a x y ≠ [] ∧ ∀ m, Gap (St G W H a) (sx a) (sy a) x y m → (m : Int) ≤ b
theorem Good.turn {a : Nat} {b : Int} {done : Int → Int → Prop} (hg : Good G W H a b done) {x y : Int} {l0 : Nat} {r : List Nat} (hs : spots G W H a x y = l0 :: r) :
    Good G W H a ((gaps G W H a x y l0).foldl max b) fun x' y' => done x' y' ∨ (x' = x ∧ y' = y) := by
  obtain ⟨⟨n, rfl, hn⟩, hd⟩ := hg
  obtain ⟨f1, f2⟩ := foldl_max_spec (gaps G W H a x y l0) (n : Int)
  have go := gaps_ok hs
  refine ⟨?_, fun x' y' h => ?_⟩
  · rcases List.mem_cons.mp f2 with e | e
    · exact ⟨n, e, hn⟩
    · obtain ⟨q, hq, eq⟩ := List.mem_map.mp e
      obtain ⟨g1, g2⟩ := go q hq
      refine ⟨q.2 - q.1, ?_, .inr ⟨_, _, g2⟩⟩
      rw [← eq]
      omega
  · rcases h with h | ⟨rfl, rfl⟩
    · obtain ⟨a1, a2⟩ := hd x' y' h
      exact ⟨a1, fun m hm => Int.le_trans (a2 m hm) (f1 _ List.mem_cons_self)⟩
    · refine ⟨by rw [hs]; simp, fun m hm => ?_⟩
      have hh := head_low (P := fun k => decide (al G W H a x' y' k = a)) (H * W) 0 l0 r hs
      have h00 : al G W H a x' y' 0 = a := by
        have := hm.2.1
        unfold al
        simp only [Int.natCast_zero, Int.zero_mul, Int.add_zero]
        exact this
      have e0 : l0 = 0 := by
        by_cases z : l0 = 0
        · exact z
        · have := hh.2.2.2 0 (Nat.le_refl _) (by omega)
          simp [h00] at this
      subst e0
      obtain ⟨v, hv⟩ := nexts_head (e := 0 + H * W) hs
      obtain ⟨g1, g2⟩ := go _ hv
      simp only [Int.natCast_zero, Int.zero_mul, Int.add_zero, Nat.sub_zero] at g2
      have em := Gap.uniq hm g2
      have hin : ((v : Int) - (0 : Nat)) ∈ gaps G W H a x' y' 0 := List.mem_map.mpr ⟨_, hv, rfl⟩
      have := f1 _ (List.mem_cons_of_mem _ hin)
      rw [em]
      simpa using this
theorem good_end (D : Dim G W H) {a : Nat} {b : Int} {done : Int → Int → Prop} (hg : Good G W H a b done) (all : ∀ x y, done (x % W) (y % H)) : ∃ n : Nat, b = n ∧ IsL (St G W H a) (sx a) (sy a) (some n) := by
  obtain ⟨⟨n, rfl, hn⟩, hd⟩ := hg
  refine ⟨n, rfl, fun x y => ?_, ?_, fun x y m hm => ?_⟩
  · obtain ⟨ne, _⟩ := hd _ _ (all x y)
    cases hs : spots G W H a (x % W) (y % H) with
    | nil => exact (ne hs).elim
    | cons l0 r =>
      obtain ⟨_, _, h2, _⟩ := head_low (P := fun k => decide (al G W H a (x % W) (y % H) k = a)) (H * W) 0 l0 r hs
      have h2' : al G W H a (x % W) (y % H) l0 = a := of_decide_eq_true h2
      exact ⟨(l0 : Nat), (st_mod a x y _ _).mp h2'⟩
  · rcases hn with rfl | hn
    · exfalso
      obtain ⟨ne, _⟩ := hd _ _ (all 0 0)
      cases hs : spots G W H a (0 % W) (0 % H) with
      | nil => exact (ne hs).elim
      | cons l0 r =>
        obtain ⟨v, hv⟩ := nexts_head (e := l0 + H * W) hs
        obtain ⟨g1, g2⟩ := gaps_ok hs _ hv
        have := (hd _ _ (all _ _)).2 _ (gap_mod g2)
        have g0 := g2.1
        simp at this
        simp at g0
        omega
    · exact hn
  · have := (hd _ _ (all x y)).2 m (gap_mod hm)
    omega
theorem none_end {a : Nat} {x y : Int} (D : Dim G W H) (hs : spots G W H a x y = []) : IsL (St G W H a) (sx a) (sy a) none := by
  refine ⟨x, y, fun k hk => ?_⟩
  have hp : 0 < H * W := Nat.mul_pos D.h0 D.w0
  have hk0 := Int.emod_nonneg k (b := ((H * W : Nat) : Int)) (by omega)
  have hk1 := Int.emod_lt_of_pos k (b := ((H * W : Nat) : Int)) (by omega)
  have ek := Int.emod_add_mul_ediv k ((H * W : Nat) : Int)
  have := none_low (P := fun k => decide (al G W H a x y k = a)) (s := 0) (m := H * W) hs (j := (k % ((H * W : Nat) : Int)).toNat) (Nat.zero_le _) (by omega)
  have h2 : al G W H a x y (k % ((H * W : Nat) : Int)).toNat = a := by
    unfold al
    rw [Int.toNat_of_nonneg hk0]
    refine Eq.trans (cell_congr ?_ ?_) hk
    · generalize hq : k / ((H * W : Nat) : Int) = q at ek
      generalize hr : k % ((H * W : Nat) : Int) = rr at ek
      rw [← ek]
      have : x + (rr + ((H * W : Nat) : Int) * q) * sx a = x + rr * sx a + W * (H * q * sx a) := by
        rw [Int.natCast_mul, Int.add_mul, Int.mul_comm (H : Int) W]
        simp only [Int.mul_assoc]
        omega
      rw [this, Int.add_mul_emod_self_left]
    · generalize hq : k / ((H * W : Nat) : Int) = q at ek
      generalize hr : k % ((H * W : Nat) : Int) = rr at ek
      rw [← ek]
      have : y + (rr + ((H * W : Nat) : Int) * q) * sy a = y + rr * sy a + H * (W * q * sy a) := by
        rw [Int.natCast_mul, Int.add_mul]
        simp only [Int.mul_assoc]
        omega
      rw [this, Int.add_mul_emod_self_left]
  simp only [h2, decide_true] at this
  cases this
def dn (W i j : Nat) (x y : Int) : Prop := ∃ i' j' : Nat, x = j' ∧ y = i' ∧ j' < W ∧ (i' < i ∨ (i' = i ∧ j' < j))
theorem Good.le {a : Nat} {b : Int} {d d' : Int → Int → Prop} (hg : Good G W H a b d) (h : ∀ x y, d' x y → d x y) : Good G W H a b d' := ⟨hg.1, fun x y z => hg.2 x y (h x y z)⟩
theorem along_ok (D : Dim G W H) {w : Str} {a : Nat} (Wy : Way w a) {o u : T} {h : VH} (ho : getI h o = some (2, [u, rowsT G])) : ∃ r, m_longest_along [o, .str w] h = .ok (optT r) h ∧ IsL (St G W H a) (sx a) (sy a) r := by
  have h0 := D.h0
  have h1 := D.h1
  have w0 := D.w0
  have w1 := D.w1
  have er : (G.map fun r => T.str (rowS r)).length = H := by rw [List.length_map, D.len]
  obtain ⟨r0, er0, hr0⟩ : ∃ r0, atI (G.map fun r => T.str (rowS r)) 0 = some (.str (rowS r0)) ∧ r0 ∈ G := by
    rw [ix_nn (Int.le_refl _) (by rw [er]; omega), List.getElem?_map]
    have : (0 : Nat) < G.length := by rw [D.len]; exact h0
    refine ⟨G[0], ?_, List.getElem_mem this⟩
    show Option.map _ G[0]? = _
    rw [List.getElem?_eq_getElem this]
    rfl
  have el0 : (rowS r0).length = W := by rw [rowS_len, D.row r0 hr0]
  have ho' := ho
  unfold rowsT at ho'
  let R : T → VH → Prop := fun t h' => t = .non ∧ h' = h ∧ ∃ x y, spots G W H a x y = []
  have inner : ∀ (i : Nat) (b : Int) (c4 c5 c6 c7 c8 c9 : Option T), Good G W H a b (dn W i 0) →
      (∃ τ' h', sFor (iRange1 (aCons (eCall fLen (aCons (eOp TL.bIx (eFld 2 1 (eVar 0)) (eK (.int 0))) aNil)) aNil)) (mgName 4) bodyE [some o, some (.str w), some (.int b), some (.int (i : Nat)), c4, c5, c6, c7, c8, c9] h = .nx τ' h' ∧ (h' = h ∧ ∃ (b : Int) (c4 c5 c6 c7 c8 c9 : Option T), τ' = [some o, some (.str w), some (.int b), some (.int (i : Nat)), c4, c5, c6, c7, c8, c9] ∧ Good G W H a b (dn W i W))) ∨
      ∃ t h', sFor (iRange1 (aCons (eCall fLen (aCons (eOp TL.bIx (eFld 2 1 (eVar 0)) (eK (.int 0))) aNil)) aNil)) (mgName 4) bodyE [some o, some (.str w), some (.int b), some (.int (i : Nat)), c4, c5, c6, c7, c8, c9] h = .rt t h' ∧ R t h' := by
    intro i b c4 c5 c6 c7 c8 c9 hg
    have z := sFor_or (mi := iRange1 (aCons (eCall fLen (aCons (eOp TL.bIx (eFld 2 1 (eVar 0)) (eK (.int 0))) aNil)) aNil)) (g := mgName 4) (body := bodyE) (τ := [some o, some (.str w), some (.int b), some (.int (i : Nat)), c4, c5, c6, c7, c8, c9]) (h := h) (h1 := h) (rd := fun _ => some (rangeT 0 W)) (ts := rangeT 0 W)
      (fun j τ h' => h' = h ∧ ∃ (b : Int) (c4 c5 c6 c7 c8 c9 : Option T), τ = [some o, some (.str w), some (.int b), some (.int (i : Nat)), c4, c5, c6, c7, c8, c9] ∧ Good G W H a b (dn W i j)) R
      (by
        simp only [iRange1, aCons, aNil, eCall, eOp, eFld, eVar, eK, List.getElem?_cons_succ, List.getElem?_cons_zero, ho', if_true, TL.bIx, TL.listOf, er0, fLen, el0]
        rw [if_pos ⟨by omega, by omega⟩, Int.toNat_natCast])
      ⟨rfl, b, c4, c5, c6, c7, c8, c9, rfl, hg⟩ (fun _ _ _ _ => rfl) (fun j hj τ h' I => by
        obtain ⟨rfl, b, c4, c5, c6, c7, c8, c9, rfl, hg⟩ := I
        obtain ⟨hj2, ej⟩ := range_at hj
        rw [ej, Int.zero_add]
        refine ⟨[some o, some (.str w), some (.int b), some (.int (i : Nat)), some (.int (j : Nat)), c5, c6, c7, c8, c9], h', rfl, ?_⟩
        rcases turn_ok D Wy ho (j : Int) (i : Int) b c5 c6 c7 c8 c9 with ⟨q1, q2⟩ | ⟨l0, r, q1, d5, d6, d7, q2⟩
        · exact .inr ⟨_, _, q2, rfl, rfl, _, _, q1⟩
        · refine .inl ⟨_, _, q2, rfl, _, _, _, _, _, _, _, rfl, (hg.turn q1).le fun x y hxy => ?_⟩
          obtain ⟨i', j', rfl, rfl, k1, k2⟩ := hxy
          rcases k2 with k2 | ⟨k2, k3⟩
          · exact .inl ⟨i', j', rfl, rfl, k1, .inl k2⟩
          · by_cases q : j' = j
            · exact .inr ⟨by rw [q], by rw [k2]⟩
            · exact .inl ⟨i', j', rfl, rfl, k1, .inr ⟨k2, by omega⟩⟩)
    rw [range_len] at z
    exact z
  have outer := sFor_or (mi := iRange1 (aCons (eCall fLen (aCons (eFld 2 1 (eVar 0)) aNil)) aNil)) (g := mgName 3) (body := sFor (iRange1 (aCons (eCall fLen (aCons (eOp TL.bIx (eFld 2 1 (eVar 0)) (eK (.int 0))) aNil)) aNil)) (mgName 4) bodyE) (τ := [some o, some (.str w), some (.int 0), none, none, none, none, none, none, none]) (h := h) (h1 := h) (rd := fun _ => some (rangeT 0 H)) (ts := rangeT 0 H)
    (fun i τ h' => h' = h ∧ ∃ (b : Int) (c3 c4 c5 c6 c7 c8 c9 : Option T), τ = [some o, some (.str w), some (.int b), c3, c4, c5, c6, c7, c8, c9] ∧ Good G W H a b (dn W i 0)) R
    (by
      simp only [iRange1, aCons, aNil, eCall, eFld, eVar, List.getElem?_cons_succ, List.getElem?_cons_zero, ho', if_true, fLen, seqOf, TL.listOf, er]
      rw [if_pos ⟨by omega, by omega⟩, Int.toNat_natCast])
    ⟨rfl, 0, none, none, none, none, none, none, none, rfl, ⟨0, rfl, .inl rfl⟩, fun x y hxy => by
      obtain ⟨i', j', _, _, _, k⟩ := hxy
      omega⟩ (fun _ _ _ _ => rfl) (fun i hi τ h' I => by
      obtain ⟨rfl, b, c3, c4, c5, c6, c7, c8, c9, rfl, hg⟩ := I
      obtain ⟨hi2, ei⟩ := range_at hi
      rw [ei, Int.zero_add]
      refine ⟨[some o, some (.str w), some (.int b), some (.int (i : Nat)), c4, c5, c6, c7, c8, c9], h', rfl, ?_⟩
      rcases inner i b c4 c5 c6 c7 c8 c9 hg with ⟨τ', h2, q1, rfl, b', d4, d5, d6, d7, d8, d9, rfl, hg'⟩ | q
      · refine .inl ⟨_, _, q1, rfl, b', _, d4, d5, d6, d7, d8, d9, rfl, hg'.le fun x y hxy => ?_⟩
        obtain ⟨i', j', rfl, rfl, k1, k2⟩ := hxy
        refine ⟨i', j', rfl, rfl, k1, ?_⟩
        rcases k2 with k2 | ⟨k2, k3⟩
        · by_cases q : i' = i
          · exact .inr ⟨q, k1⟩
          · exact .inl (by omega)
        · omega
      · exact .inr q)
  rw [range_len] at outer
  have t0 : startT 10 [o, .str w] = [some o, some (.str w), none, none, none, none, none, none, none, none] := rfl
  rcases outer with ⟨τ', h', q1, rfl, b, c3, c4, c5, c6, c7, c8, c9, rfl, hg⟩ | ⟨t, h', q1, rfl, rfl, x, y, hs⟩
  · obtain ⟨n, rfl, hL⟩ := good_end D hg fun x y => by
      have a1 := Int.emod_nonneg x (b := (W : Int)) (by omega)
      have a2 := Int.emod_lt_of_pos x (b := (W : Int)) (by omega)
      have a3 := Int.emod_nonneg y (b := (H : Int)) (by omega)
      have a4 := Int.emod_lt_of_pos y (b := (H : Int)) (by omega)
      exact ⟨(y % H).toNat, (x % W).toNat, by omega, by omega, by omega, .inl (by omega)⟩
    refine ⟨some n, ?_, hL⟩
    exact defM_rt rfl ((seq_nx (τ1 := [some o, some (.str w), some (.int 0), none, none, none, none, none, none, none]) rfl).trans ((seq_nx q1).trans rfl))
  · refine ⟨none, ?_, none_end D hs⟩
    exact defM_rt rfl ((seq_nx (τ1 := [some o, some (.str w), some (.int 0), none, none, none, none, none, none, none]) rfl).trans (seq_rt q1))
end
end K33

set_option Elab.async false
set_option linter.all false
set_option maxRecDepth 100000
set_option maxHeartbeats 400000
namespace K33
open PySem L2 TL KG
theorem way_e : Way "e" 6 := ⟨rfl, by decide, by decide, by decide⟩
theorem way_n : Way "n" 8 := ⟨rfl, by decide, by decide, by decide⟩
theorem way_a : Way "a" 9 := ⟨rfl, by decide, by decide, by decide⟩
theorem way_b : Way "b" 7 := ⟨rfl, by decide, by decide, by decide⟩
def held : Option Nat → Option Nat → Option Nat → Option Nat → Option Nat
  | some e, some n, some a, some b => some (1 + max (max (max e n) a) b)
  | _, _, _, _ => none
def toldT (e n a b : Option Nat) : T := .lst [optT e, optT n, optT a, optT b, optT (held e n a b)]
section
variable {G : List (List Nat)} {W H : Nat}
theorem pat_at (G : List (List Nat)) (h : VH) : getI h (pat G) = some (2, [.str (spell G), rowsT G]) := rfl
theorem free_ok {w : Str} {h : VH} {t : T} (hw : m_check_way [.str w] h = .ok .non h) (e : m_longest_along [pat G, .str w] h = .ok t h) : m_longest_free [pat G, .str w] h = .ok t h := by
  have c1 : m_check_pattern [pat G] h = .ok .non h := rfl
  refine defM_rt rfl ?_
  show s_longest_free [some (pat G), some (.str w)] h = _
  exact (seq_nx (expr_ok ((call_ok (ts := [pat G]) rfl).trans c1))).trans ((seq_nx (expr_ok ((call_ok (ts := [.str w]) rfl).trans hw))).trans (ret_ok ((call_ok (ts := [pat G, .str w]) rfl).trans e)))
theorem found_ok {h : VH} {e n a b : Option Nat} (h6 : m_longest_along [pat G, .str "e"] h = .ok (optT e) h) (h8 : m_longest_along [pat G, .str "n"] h = .ok (optT n) h) (h9 : m_longest_along [pat G, .str "a"] h = .ok (optT a) h) (h7 : m_longest_along [pat G, .str "b"] h = .ok (optT b) h) (c2 : Option T) :
    mLc (iKeysK kv_AHEAD) [2] (mgName 2) bYes (eCall m_longest_along (aCons (eVar 0) (aCons (eVar 2) aNil))) [some (pat G), none, c2] h = .ok [optT e, optT n, optT a, optT b] h := by
  have kv : List (Str × T) := [("e", optT e), ("n", optT n), ("a", optT a), ("b", optT b)]
  have z := mLc_map (mi := iKeysK kv_AHEAD) (ws := [2]) (g := mgName 2) (e := eCall m_longest_along (aCons (eVar 0) (aCons (eVar 2) aNil))) (τ := [some (pat G), none, c2]) (h := h) (rd := fun _ => some (kv_AHEAD.map fun q => T.str q.1)) (ts := [.str "e", .str "n", .str "a", .str "b"])
    rfl rfl (by decide) (fun t => match t with | .str w => (([("e", optT e), ("n", optT n), ("a", optT a), ("b", optT b)] : List (Str × T)).lookup w).getD .non | t => t) (fun t ht => by
      refine ⟨_, rfl, ?_⟩
      simp only [List.mem_cons, List.not_mem_nil, or_false] at ht
      rcases ht with rfl | rfl | rfl | rfl
      · exact (call_ok (ts := [pat G, .str "e"]) rfl).trans h6
      · exact (call_ok (ts := [pat G, .str "n"]) rfl).trans h8
      · exact (call_ok (ts := [pat G, .str "a"]) rfl).trans h9
      · exact (call_ok (ts := [pat G, .str "b"]) rfl).trans h7)
  exact z
theorem held_ok {h : VH} {e n a b : Option Nat} (h6 : m_longest_along [pat G, .str "e"] h = .ok (optT e) h) (h8 : m_longest_along [pat G, .str "n"] h = .ok (optT n) h) (h9 : m_longest_along [pat G, .str "a"] h = .ok (optT a) h) (h7 : m_longest_along [pat G, .str "b"] h = .ok (optT b) h) :
    m_least_held [pat G] h = .ok (optT (held e n a b)) h := by
  have c1 : m_check_pattern [pat G] h = .ok .non h := rfl
  refine defM_rt rfl ?_
  show s_least_held [some (pat G), none, none] h = _
  refine (seq_nx (expr_ok (t := .non) ((call_ok (ts := [pat G]) rfl).trans c1))).trans ((seq_nx (set_ok (eL_ok (found_ok h6 h8 h9 h7 none)))).trans (ret_ok ?_))
  show eIf _ _ _ [some (pat G), some (.lst [optT e, optT n, optT a, optT b]), none] h = _
  cases e <;> cases n <;> cases a <;> cases b <;>
    simp [eIf, bTest, eOp, eK, eVar, bIn, bInG, T.dat, optT, PyData.eqv, held, TL.bAdd, eCall, aCons, aNil, fMax, fInts, TL.listOf, intsOf, maxI]
  omega
theorem told_ok (D : Dim G W H) (M : Mut G W H) {h : VH} (hl : h.all (VO.lowR h.length) = true) : ∃ e n a b, m_law_told [gridT G] h = .ok (toldT e n a b) h ∧ IsL (St G W H 6) 1 0 e ∧ IsL (St G W H 8) 0 1 n ∧ IsL (St G W H 9) 1 1 a ∧ IsL (St G W H 7) (-1) 1 b := by
  obtain ⟨e, h6, i6⟩ := along_ok D way_e (pat_at G h)
  obtain ⟨n, h8, i8⟩ := along_ok D way_n (pat_at G h)
  obtain ⟨a, h9, i9⟩ := along_ok D way_a (pat_at G h)
  obtain ⟨b, h7, i7⟩ := along_ok D way_b (pat_at G h)
  refine ⟨e, n, a, b, ?_, i6, i8, i9, i7⟩
  have mk := make_ok D M hl
  have sp := spelled_ok D (mut_digs D M) h
  have f6 := free_ok (G := G) (w := "e") (h := h) rfl h6
  have f8 := free_ok (G := G) (w := "n") (h := h) rfl h8
  have f9 := free_ok (G := G) (w := "a") (h := h) rfl h9
  have f7 := free_ok (G := G) (w := "b") (h := h) rfl h7
  have hd := held_ok h6 h8 h9 h7
  have cs : mLc (iSeqC (eL (aLim (aCons (eK (.str "e")) (aCons (eK (.str "n")) (aCons (eK (.str "a")) (aCons (eK (.str "b")) aNil))))))) [2] (mgName 2) bYes (eCall m_longest_free (aCons (eVar 1) (aCons (eVar 2) aNil))) [some (gridT G), some (pat G), none] h = .ok [optT e, optT n, optT a, optT b] h := by
    have z := mLc_map (mi := iSeqC (eL (aLim (aCons (eK (.str "e")) (aCons (eK (.str "n")) (aCons (eK (.str "a")) (aCons (eK (.str "b")) aNil))))))) (ws := [2]) (g := mgName 2) (e := eCall m_longest_free (aCons (eVar 1) (aCons (eVar 2) aNil))) (τ := [some (gridT G), some (pat G), none]) (h := h)
      (rd := fun h => seqS h (.lst [.str "e", .str "n", .str "a", .str "b"])) (ts := [.str "e", .str "n", .str "a", .str "b"])
      (by simp [iSeqC, eL, aLim, aCons, aNil, eK, walkable, seqS, seqOf, TL.listOf]) rfl (by decide) (fun t => match t with | .str w => (([("e", optT e), ("n", optT n), ("a", optT a), ("b", optT b)] : List (Str × T)).lookup w).getD .non | t => t) (fun t ht => by
        refine ⟨_, rfl, ?_⟩
        simp only [List.mem_cons, List.not_mem_nil, or_false] at ht
        rcases ht with rfl | rfl | rfl | rfl
        · exact (call_ok (ts := [pat G, .str "e"]) rfl).trans f6
        · exact (call_ok (ts := [pat G, .str "n"]) rfl).trans f8
        · exact (call_ok (ts := [pat G, .str "a"]) rfl).trans f9
        · exact (call_ok (ts := [pat G, .str "b"]) rfl).trans f7)
    exact z
  refine defM_rt rfl ?_
  show s_law_told [some (gridT G), none, none] h = _
  have e1 : eCall (cutM (makeM 2 m_Pattern___init__)) (aCons (eCall m_law_spelled (aCons (eVar 0) aNil)) aNil) [some (gridT G), none, none] h = .ok (pat G) h :=
    (call_ok (cons_ok ((call_ok (ts := [gridT G]) rfl).trans sp) rfl)).trans mk
  refine (seq_nx (set_ok e1)).trans (ret_ok ?_)
  have e2 : eL (aLim (aCons (eCall m_least_held (aCons (eVar 1) aNil)) aNil)) [some (gridT G), some (pat G), none] h = .ok (.lst [optT (held e n a b)]) h := by
    refine eL_ok ?_
    unfold aLim
    rw [cons_ok ((call_ok (ts := [pat G]) rfl).trans hd) rfl]
    rfl
  exact (op_ok (eL_ok cs) e2).trans rfl
end
end K33

set_option Elab.async false
set_option linter.all false
set_option maxRecDepth 100000
set_option maxHeartbeats 400000
namespace K33
open PySem L2 TL KG
section
variable {G G' : List (List Nat)} {W H W' H' : Nat}
theorem Mut.map (M : Mut G W H) (p q : Int → Int → Int) (g : Nat → Nat) (hc : ∀ x y, cell G' W' H' x y = g (cell G W H (p x y) (q x y))) (hg : ∀ v, v < 10 → v ≠ 5 → g v < 10 ∧ g v ≠ 5 ∧ (v = 0 → g v = 0) ∧ (v ≠ 0 → ∀ u, u + v = 10 → g u + g v = 10))
    (hs : ∀ x y v, v < 10 → v ≠ 5 → v ≠ 0 → p (x + sx (g v)) (y + sy (g v)) = p x y + sx v ∧ q (x + sx (g v)) (y + sy (g v)) = q x y + sy v) : Mut G' W' H' := by
  refine ⟨fun x y => ?_, fun x y => ?_, fun x y hne => ?_⟩
  · rw [hc]; exact (hg _ (M.lt _ _) (M.n5 _ _)).1
  · rw [hc]; exact (hg _ (M.lt _ _) (M.n5 _ _)).2.1
  · have a := M.lt (p x y) (q x y)
    have b := M.n5 (p x y) (q x y)
    have c := M.mate (p x y) (q x y)
    rw [hc x y] at hne ⊢
    generalize hv : cell G W H (p x y) (q x y) = v at a b c hne ⊢
    obtain ⟨_, _, g3, g4⟩ := hg v a b
    have v0 : v ≠ 0 := fun z => hne (g3 z)
    obtain ⟨s1, s2⟩ := hs x y v a b v0
    rw [hc, s1, s2]
    exact g4 v0 _ (c v0)
theorem sx_neg (v : Nat) (hv : v < 10) (h5 : v ≠ 5) (h0 : v ≠ 0) : sx (10 - v) = - sx v ∧ sy (10 - v) = - sy v := by
  refine ten (P := fun v => v ≠ 0 → sx (10 - v) = - sx v ∧ sy (10 - v) = - sy v) ?_ ?_ ?_ ?_ ?_ ?_ ?_ ?_ ?_ v hv h5 h0
  · intro z; exact absurd rfl z
  all_goals intro _; exact ⟨rfl, rfl⟩
theorem mate_iff (M : Mut G W H) {v : Nat} (hv : v < 10) (h5 : v ≠ 5) (h0 : v ≠ 0) (x y : Int) : St G W H v x y ↔ St G W H (10 - v) (x + sx v) (y + sy v) := by
  unfold St
  constructor
  · intro e
    have := M.mate x y (by rw [e]; exact h0)
    rw [e] at this
    omega
  · intro e
    have := M.mate (x + sx v) (y + sy v) (by rw [e]; omega)
    obtain ⟨n1, n2⟩ := sx_neg v hv h5 h0
    rw [e, n1, n2] at this
    have e1 : x + sx v + - sx v = x := by omega
    have e2 : y + sy v + - sy v = y := by omega
    rw [e1, e2] at this
    omega
theorem IsL.mate (M : Mut G W H) {v : Nat} (hv : v < 10) (h5 : v ≠ 5) (h0 : v ≠ 0) {dx dy : Int} {r : Option Nat} (h : IsL (St G W H v) dx dy r) : IsL (St G W H (10 - v)) dx dy r := by
  refine IsL.map (fun x _ => x + sx v) (fun _ y => y + sy v) (fun x y => mate_iff M hv h5 h0 x y) (fun x y k => by omega) (fun x y k => by omega) (fun s t => ⟨s - sx v, t - sy v, by omega, by omega⟩) h
/-- a grid by its cells -/
def ofFn (W H : Nat) (f : Nat → Nat → Nat) : List (List Nat) := (List.range H).map fun k => (List.range W).map fun j => f j k
theorem ofFn_dim {f : Nat → Nat → Nat} (hH : 0 < H) (h1 : H ≤ 12) (hW : 0 < W) (w1 : W ≤ 12) : Dim (ofFn W H f) W H :=
  ⟨by simp [ofFn], hH, h1, fun r hr => by obtain ⟨k, _, rfl⟩ := List.mem_map.mp hr; simp, hW, w1⟩
theorem ofFn_cell {f : Nat → Nat → Nat} (hH : 0 < H) (hW : 0 < W) (x y : Int) : cell (ofFn W H f) W H x y = f (x % W).toNat (y % H).toNat := by
  unfold cell rowAt ofFn
  have a := mod_lt' y hH
  have b := mod_lt' x hW
  rw [List.getD_eq_getElem?_getD, List.getD_eq_getElem?_getD, List.getElem?_map, List.getElem?_range a]
  simp only [Option.map_some, Option.getD_some]
  rw [List.getElem?_map, List.getElem?_range b]
  rfl
theorem rows_add (D : Dim G W H) : Dim (G.map fun r => r ++ r) (2 * W) H ↔ True ∧ 2 * W ≤ 12 := by
  constructor
  · intro d; exact ⟨trivial, d.w1⟩
  · intro d
    refine ⟨by rw [List.length_map]; exact D.len, D.h0, D.h1, fun r hr => ?_, by have := D.w0; omega, d.2⟩
    obtain ⟨s, hs, rfl⟩ := List.mem_map.mp hr
    rw [List.length_append, D.row s hs]
    omega
theorem getD_app (l : List Nat) (i : Nat) (hi : i < 2 * l.length) : (l ++ l).getD i 0 = l.getD (i % l.length) 0 := by
  rw [List.getD_eq_getElem?_getD, List.getD_eq_getElem?_getD]
  by_cases h : i < l.length
  · rw [List.getElem?_append_left h, Nat.mod_eq_of_lt h]
  · rw [List.getElem?_append_right (by omega)]
    have : i % l.length = i - l.length := by
      rw [Nat.mod_eq_sub_mod (by omega), Nat.mod_eq_of_lt (by omega)]
    rw [this]
theorem getD_appL (l : List (List Nat)) (i : Nat) (hi : i < 2 * l.length) : (l ++ l).getD i [] = l.getD (i % l.length) [] := by
  rw [List.getD_eq_getElem?_getD, List.getD_eq_getElem?_getD]
  by_cases h : i < l.length
  · rw [List.getElem?_append_left h, Nat.mod_eq_of_lt h]
  · rw [List.getElem?_append_right (by omega)]
    have : i % l.length = i - l.length := by
      rw [Nat.mod_eq_sub_mod (by omega), Nat.mod_eq_of_lt (by omega)]
    rw [this]
theorem mod_mod2 (x : Int) {n : Nat} (hn : 0 < n) : (x % ((2 * n : Nat) : Int)).toNat % n = (x % (n : Int)).toNat := by
  have a := Int.emod_nonneg x (b := ((2 * n : Nat) : Int)) (by omega)
  have e : (((x % ((2 * n : Nat) : Int)).toNat % n : Nat) : Int) = x % (n : Int) := by
    rw [Int.natCast_emod, Int.toNat_of_nonneg a]
    exact Int.emod_emod_of_dvd x ⟨2, by rw [Int.natCast_mul]; omega⟩
  have b := Int.emod_nonneg x (b := (n : Int)) (by omega)
  omega
theorem rowAt_map (D : Dim G W H) (f : List Nat → List Nat) (y : Int) : rowAt (G.map f) H y = f (rowAt G H y) := by
  unfold rowAt
  have h := mod_lt' y D.h0
  rw [List.getD_eq_getElem?_getD, List.getD_eq_getElem?_getD, List.getElem?_map, List.getElem?_eq_getElem (by rw [D.len]; exact h)]
  rfl
theorem wide_cell (D : Dim G W H) (x y : Int) : cell (G.map fun r => r ++ r) (2 * W) H x y = cell G W H x y := by
  unfold cell
  rw [rowAt_map D]
  have hl := D.row _ (D.rowAt_mem y)
  have w0 := D.w0
  rw [getD_app _ _ (by rw [hl]; exact mod_lt' x (by omega)), hl, mod_mod2 x w0]
theorem high_cell (D : Dim G W H) (x y : Int) : cell (G ++ G) W (2 * H) x y = cell G W H x y := by
  have h0 := D.h0
  have e : rowAt (G ++ G) (2 * H) y = rowAt G H y := by
    unfold rowAt
    rw [getD_appL _ _ (by rw [D.len]; exact mod_lt' y (by omega)), D.len, mod_mod2 y h0]
  unfold cell
  rw [e]
theorem high_dim (D : Dim G W H) (h : 2 * H ≤ 12) : Dim (G ++ G) W (2 * H) :=
  ⟨by rw [List.length_append, D.len]; omega, by have := D.h0; omega, h, fun r hr => by
    rcases List.mem_append.mp hr with z | z <;> exact D.row r z, D.w0, D.w1⟩
theorem Mut.same (M : Mut G W H) (hc : ∀ x y, cell G' W' H' x y = cell G W H x y) : Mut G' W' H' := ⟨fun x y => by rw [hc]; exact M.lt x y, fun x y => by rw [hc]; exact M.n5 x y, fun x y h => by rw [hc x y] at h ⊢; rw [hc]; exact M.mate x y h⟩
theorem IsL.same (hc : ∀ x y, cell G' W' H' x y = cell G W H x y) {v : Nat} {dx dy : Int} {r : Option Nat} (h : IsL (St G' W' H' v) dx dy r) : IsL (St G W H v) dx dy r := by
  have e : St G' W' H' v = St G W H v := funext fun x => funext fun y => by unfold St; rw [hc]
  rw [← e]
  exact h
/-! turned, mirrored -/
def oth1 (d : Nat) : Nat := [0, 3, 6, 9, 2, 5, 8, 1, 4, 7].getD d 0
def oth2 (d : Nat) : Nat := [0, 3, 2, 1, 6, 5, 4, 9, 8, 7].getD d 0
def turned (G : List (List Nat)) (W H : Nat) : List (List Nat) := ofFn H W fun j k => oth1 (cell G W H (k : Nat) ((H : Int) - 1 - j))
def mirrored (G : List (List Nat)) : List (List Nat) := G.map fun r => r.reverse.map oth2
theorem turned_cell (D : Dim G W H) (x y : Int) : cell (turned G W H) H W x y = oth1 (cell G W H y (-1 - x)) := by
  unfold turned
  rw [ofFn_cell D.w0 D.h0]
  congr 1
  have a := Int.emod_nonneg x (b := (H : Int)) (by have := D.h0; omega)
  have b := Int.emod_nonneg y (b := (W : Int)) (by have := D.w0; omega)
  apply cell_congr
  · rw [Int.toNat_of_nonneg b, Int.emod_emod]
  · rw [Int.toNat_of_nonneg a]
    have e := Int.emod_add_mul_ediv x (H : Int)
    generalize hr : x % (H : Int) = r at e
    generalize hq : x / (H : Int) = q at e
    have : (H : Int) - 1 - r = -1 - x + H * (1 + q) := by rw [Int.mul_add, ← e]; omega
    rw [this, Int.add_mul_emod_self_left]
theorem mirrored_cell (D : Dim G W H) (x y : Int) : cell (mirrored G) W H x y = oth2 (cell G W H (-1 - x) y) := by
  unfold cell mirrored
  rw [rowAt_map D]
  have hl := D.row _ (D.rowAt_mem y)
  have h1 := mod_lt' x D.w0
  have h2 := mod_lt' (-1 - x) D.w0
  have w0 := D.w0
  have e : (((-1 : Int) - x) % (W : Int)).toNat = W - 1 - (x % (W : Int)).toNat := by
    have a := Int.emod_nonneg x (b := (W : Int)) (by omega)
    have e := Int.emod_add_mul_ediv x (W : Int)
    have b := Int.emod_lt_of_pos x (b := (W : Int)) (by omega)
    generalize hr : x % (W : Int) = r at e a b ⊢
    generalize hq : x / (W : Int) = q at e
    have : (-1 : Int) - x = (W - 1 - r) + W * (-1 - q) := by rw [← e, Int.mul_sub]; omega
    rw [this, Int.add_mul_emod_self_left, Int.emod_eq_of_lt (by omega) (by omega)]
    omega
  rw [e, List.getD_eq_getElem?_getD, List.getD_eq_getElem?_getD, List.getElem?_map, List.getElem?_reverse (by rw [hl]; exact h1), hl, List.getElem?_eq_getElem (by rw [hl]; omega)]
  rfl
theorem turned_mut (D : Dim G W H) (M : Mut G W H) : Mut (turned G W H) H W := by
  refine M.map (fun _ y => y) (fun x _ => -1 - x) oth1 (turned_cell D) (fun v hv h5 => ?_) (fun x y v hv h5 h0 => ?_)
  · refine ten (P := fun v => oth1 v < 10 ∧ oth1 v ≠ 5 ∧ (v = 0 → oth1 v = 0) ∧ (v ≠ 0 → ∀ u, u + v = 10 → oth1 u + oth1 v = 10)) ?_ ?_ ?_ ?_ ?_ ?_ ?_ ?_ ?_ v hv h5
    all_goals
      refine ⟨by decide, by decide, by decide, fun _ u hu => ?_⟩
      first
        | (exfalso; simp at *; done)
        | (have : u = 10 - 1 ∨ u = 10 - 2 ∨ u = 10 - 3 ∨ u = 10 - 4 ∨ u = 10 - 6 ∨ u = 10 - 7 ∨ u = 10 - 8 ∨ u = 10 - 9 := by omega
           rcases this with rfl | rfl | rfl | rfl | rfl | rfl | rfl | rfl <;> first | rfl | omega)
  · have key : sy (oth1 v) = sx v ∧ - sx (oth1 v) = sy v := by
      refine ten (P := fun v => sy (oth1 v) = sx v ∧ - sx (oth1 v) = sy v) ?_ ?_ ?_ ?_ ?_ ?_ ?_ ?_ ?_ v hv h5 <;> decide
    exact ⟨by rw [key.1], by rw [← key.2]; omega⟩
theorem mirrored_mut (D : Dim G W H) (M : Mut G W H) : Mut (mirrored G) W H := by
  refine M.map (fun x _ => -1 - x) (fun _ y => y) oth2 (mirrored_cell D) (fun v hv h5 => ?_) (fun x y v hv h5 h0 => ?_)
  · refine ten (P := fun v => oth2 v < 10 ∧ oth2 v ≠ 5 ∧ (v = 0 → oth2 v = 0) ∧ (v ≠ 0 → ∀ u, u + v = 10 → oth2 u + oth2 v = 10)) ?_ ?_ ?_ ?_ ?_ ?_ ?_ ?_ ?_ v hv h5
    all_goals
      refine ⟨by decide, by decide, by decide, fun _ u hu => ?_⟩
      first
        | (exfalso; simp at *; done)
        | (have : u = 10 - 1 ∨ u = 10 - 2 ∨ u = 10 - 3 ∨ u = 10 - 4 ∨ u = 10 - 6 ∨ u = 10 - 7 ∨ u = 10 - 8 ∨ u = 10 - 9 := by omega
           rcases this with rfl | rfl | rfl | rfl | rfl | rfl | rfl | rfl <;> first | rfl | omega)
  · have key : - sx (oth2 v) = sx v ∧ sy (oth2 v) = sy v := by
      refine ten (P := fun v => - sx (oth2 v) = sx v ∧ sy (oth2 v) = sy v) ?_ ?_ ?_ ?_ ?_ ?_ ?_ ?_ ?_ v hv h5 <;> decide
    exact ⟨by rw [← key.1]; omega, by rw [key.2]⟩
end
end K33

set_option Elab.async false
set_option linter.all false
set_option maxRecDepth 100000
set_option maxHeartbeats 400000
namespace K33
open PySem L2 TL KG
section
variable {G G' : List (List Nat)} {W H W' H' : Nat}
def Tell (G : List (List Nat)) (W H : Nat) (e n a b : Option Nat) : Prop := IsL (St G W H 6) 1 0 e ∧ IsL (St G W H 8) 0 1 n ∧ IsL (St G W H 9) 1 1 a ∧ IsL (St G W H 7) (-1) 1 b
theorem Tell.uniq {e n a b e' n' a' b' : Option Nat} (h : Tell G W H e n a b) (h' : Tell G W H e' n' a' b') : e' = e ∧ n' = n ∧ a' = a ∧ b' = b := ⟨h'.1.uniq h.1, h'.2.1.uniq h.2.1, h'.2.2.1.uniq h.2.2.1, h'.2.2.2.uniq h.2.2.2⟩
theorem turned_isl (D : Dim G W H) (M : Mut G W H) {v u : Nat} (hu : ∀ d, d < 10 → d ≠ 5 → (oth1 d = v ↔ d = u)) {dx dy : Int} {r : Option Nat} (h : IsL (St (turned G W H) H W v) dx dy r) : IsL (St G W H u) dy (-dx) r :=
  IsL.map (fun _ y => y) (fun x _ => -1 - x) (fun x y => by unfold St; rw [turned_cell D]; exact hu _ (M.lt _ _) (M.n5 _ _)) (fun x y k => rfl) (fun x y k => by rw [Int.mul_neg]; omega) (fun s t => ⟨-1 - t, s, rfl, by omega⟩) h
theorem mirrored_isl (D : Dim G W H) (M : Mut G W H) {v u : Nat} (hu : ∀ d, d < 10 → d ≠ 5 → (oth2 d = v ↔ d = u)) {dx dy : Int} {r : Option Nat} (h : IsL (St (mirrored G) W H v) dx dy r) : IsL (St G W H u) (-dx) dy r :=
  IsL.map (fun x _ => -1 - x) (fun _ y => y) (fun x y => by unfold St; rw [mirrored_cell D]; exact hu _ (M.lt _ _) (M.n5 _ _)) (fun x y k => by rw [Int.mul_neg]; omega) (fun x y k => rfl) (fun s t => ⟨-1 - s, t, by omega, rfl⟩) h
theorem moved_isl (s t : Int) (hc : ∀ x y, cell G' W H x y = cell G W H (s + x) (t + y)) {v : Nat} {dx dy : Int} {r : Option Nat} (h : IsL (St G' W H v) dx dy r) : IsL (St G W H v) dx dy r :=
  IsL.map (fun x _ => s + x) (fun _ y => t + y) (fun x y => by unfold St; rw [hc]) (fun x y k => by omega) (fun x y k => by omega) (fun p q => ⟨p - s, q - t, by omega, by omega⟩) h
theorem tell_turned (D : Dim G W H) (M : Mut G W H) {e n a b e' n' a' b' : Option Nat} (h : Tell G W H e n a b) (h' : Tell (turned G W H) H W e' n' a' b') : e' = n ∧ n' = e ∧ a' = b ∧ b' = a := by
  obtain ⟨h6, h8, h9, h7⟩ := h
  obtain ⟨k6, k8, k9, k7⟩ := h'
  have c6 := turned_isl D M (v := 6) (u := 2) (fun d hd h5 => ten (P := fun d => oth1 d = 6 ↔ d = 2) (by decide) (by decide) (by decide) (by decide) (by decide) (by decide) (by decide) (by decide) (by decide) d hd h5) k6
  have c8 := turned_isl D M (v := 8) (u := 6) (fun d hd h5 => ten (P := fun d => oth1 d = 8 ↔ d = 6) (by decide) (by decide) (by decide) (by decide) (by decide) (by decide) (by decide) (by decide) (by decide) d hd h5) k8
  have c9 := turned_isl D M (v := 9) (u := 3) (fun d hd h5 => ten (P := fun d => oth1 d = 9 ↔ d = 3) (by decide) (by decide) (by decide) (by decide) (by decide) (by decide) (by decide) (by decide) (by decide) d hd h5) k9
  have c7 := turned_isl D M (v := 7) (u := 9) (fun d hd h5 => ten (P := fun d => oth1 d = 7 ↔ d = 9) (by decide) (by decide) (by decide) (by decide) (by decide) (by decide) (by decide) (by decide) (by decide) d hd h5) k7
  exact ⟨((IsL.mate M (by decide) (by decide) (by decide) c6.rev) : IsL (St G W H 8) 0 1 e').uniq h8, (c8 : IsL (St G W H 6) 1 0 n').uniq h6, ((IsL.mate M (by decide) (by decide) (by decide) c9.rev) : IsL (St G W H 7) (-1) 1 a').uniq h7, (c7 : IsL (St G W H 9) 1 1 b').uniq h9⟩
theorem tell_mirrored (D : Dim G W H) (M : Mut G W H) {e n a b e' n' a' b' : Option Nat} (h : Tell G W H e n a b) (h' : Tell (mirrored G) W H e' n' a' b') : e' = e ∧ n' = n ∧ a' = b ∧ b' = a := by
  obtain ⟨h6, h8, h9, h7⟩ := h
  obtain ⟨k6, k8, k9, k7⟩ := h'
  have c6 := mirrored_isl D M (v := 6) (u := 4) (fun d hd h5 => ten (P := fun d => oth2 d = 6 ↔ d = 4) (by decide) (by decide) (by decide) (by decide) (by decide) (by decide) (by decide) (by decide) (by decide) d hd h5) k6
  have c8 := mirrored_isl D M (v := 8) (u := 8) (fun d hd h5 => ten (P := fun d => oth2 d = 8 ↔ d = 8) (by decide) (by decide) (by decide) (by decide) (by decide) (by decide) (by decide) (by decide) (by decide) d hd h5) k8
  have c9 := mirrored_isl D M (v := 9) (u := 7) (fun d hd h5 => ten (P := fun d => oth2 d = 9 ↔ d = 7) (by decide) (by decide) (by decide) (by decide) (by decide) (by decide) (by decide) (by decide) (by decide) d hd h5) k9
  have c7 := mirrored_isl D M (v := 7) (u := 9) (fun d hd h5 => ten (P := fun d => oth2 d = 7 ↔ d = 9) (by decide) (by decide) (by decide) (by decide) (by decide) (by decide) (by decide) (by decide) (by decide) d hd h5) k7
  exact ⟨((IsL.mate M (by decide) (by decide) (by decide) c6.rev) : IsL (St G W H 6) 1 0 e').uniq h6, (c8 : IsL (St G W H 8) 0 1 n').uniq h8, (c9 : IsL (St G W H 7) (-1) 1 a').uniq h7, (c7 : IsL (St G W H 9) 1 1 b').uniq h9⟩
def begun (G : List (List Nat)) (W H : Nat) (s t : Int) : List (List Nat) := ofFn W H fun j k => cell G W H (s + j) (t + k)
theorem begun_cell (D : Dim G W H) (s t x y : Int) : cell (begun G W H s t) W H x y = cell G W H (s + x) (t + y) := by
  unfold begun
  rw [ofFn_cell D.h0 D.w0]
  have a := Int.emod_nonneg x (b := (W : Int)) (by have := D.w0; omega)
  have b := Int.emod_nonneg y (b := (H : Int)) (by have := D.h0; omega)
  apply cell_congr
  · rw [Int.toNat_of_nonneg a, Int.add_emod_emod]
  · rw [Int.toNat_of_nonneg b, Int.add_emod_emod]
theorem begun_mut (D : Dim G W H) (M : Mut G W H) (s t : Int) : Mut (begun G W H s t) W H :=
  M.map (fun x _ => s + x) (fun _ y => t + y) id (begun_cell D s t) (fun v hv h5 => ⟨hv, h5, id, fun _ u hu => hu⟩) (fun x y v _ _ _ => ⟨by simp only [id]; omega, by simp only [id]; omega⟩)
theorem tell_begun (D : Dim G W H) {s t : Int} {e n a b e' n' a' b' : Option Nat} (h : Tell G W H e n a b) (h' : Tell (begun G W H s t) W H e' n' a' b') : e' = e ∧ n' = n ∧ a' = a ∧ b' = b :=
  h.uniq ⟨moved_isl s t (begun_cell D s t) h'.1, moved_isl s t (begun_cell D s t) h'.2.1, moved_isl s t (begun_cell D s t) h'.2.2.1, moved_isl s t (begun_cell D s t) h'.2.2.2⟩
theorem tell_same (hc : ∀ x y, cell G' W' H' x y = cell G W H x y) {e n a b e' n' a' b' : Option Nat} (h : Tell G W H e n a b) (h' : Tell G' W' H' e' n' a' b') : e' = e ∧ n' = n ∧ a' = a ∧ b' = b :=
  h.uniq ⟨IsL.same hc h'.1, IsL.same hc h'.2.1, IsL.same hc h'.2.2.1, IsL.same hc h'.2.2.2⟩
/-! the law's own defs -/
theorem at_ok (D : Dim G W H) (x y : Int) (h : VH) : m_law_at [gridT G, .int x, .int y] h = .ok (.int (cell G W H x y : Nat)) h := by
  have e1 := D.ixRow (fun r => T.lst (r.map fun d => .int (d : Nat))) y
  have e2 : atI ((rowAt G H y).map fun d => T.int (d : Nat)) (x % W) = some (.int (cell G W H x y : Nat)) := D.ixCell (fun d => T.int (d : Nat)) x y
  have e4 := D.len
  have e5 := D.h0
  have e6 := D.w0
  have er : (G.map fun r => T.lst (r.map fun d => .int (d : Nat))).length = H := by rw [List.length_map, D.len]
  obtain ⟨r0, er0, hr0⟩ : ∃ r0, atI (G.map fun r => T.lst (r.map fun d => .int (d : Nat))) 0 = some (.lst (r0.map fun d => .int (d : Nat))) ∧ r0 ∈ G := by
    rw [ix_nn (Int.le_refl _) (by rw [er]; omega), List.getElem?_map]
    have : (0 : Nat) < G.length := by rw [D.len]; exact D.h0
    refine ⟨G[0], ?_, List.getElem_mem this⟩
    show Option.map _ G[0]? = _
    rw [List.getElem?_eq_getElem this]
    rfl
  have el0 : (r0.map fun d => T.int (d : Nat)).length = W := by rw [List.length_map, D.row r0 hr0]
  have d1 : decide ((0 : Int) < (H : Int)) = true := decide_eq_true (by omega)
  have d2 : decide ((0 : Int) < (W : Int)) = true := decide_eq_true (by omega)
  refine defM_rt rfl (ret_ok ?_)
  show eOp _ _ _ [some (gridT G), some (.int x), some (.int y)] h = _
  unfold gridT
  simp only [eOp, eCall, aCons, aNil, eVar, eK, fInt, fLen, seqOf, TL.listOf, List.getElem?_cons_succ, List.getElem?_cons_zero, er, bMod, bI, d1, d2, if_true, TL.bIx, e1, er0, el0, e2]
theorem begun_ok (D : Dim G W H) (s t : Int) (h : VH) : m_law_begun [gridT G, .int s, .int t] h = .ok (gridT (begun G W H s t)) h := by
  have h0 := D.h0
  have h1 := D.h1
  have w0 := D.w0
  have w1 := D.w1
  have er : (G.map fun r => T.lst (r.map fun d => .int (d : Nat))).length = H := by rw [List.length_map, D.len]
  obtain ⟨r0, er0, hr0⟩ : ∃ r0, atI (G.map fun r => T.lst (r.map fun d => .int (d : Nat))) 0 = some (.lst (r0.map fun d => .int (d : Nat))) ∧ r0 ∈ G := by
    rw [ix_nn (Int.le_refl _) (by rw [er]; omega), List.getElem?_map]
    have : (0 : Nat) < G.length := by rw [D.len]; exact D.h0
    refine ⟨G[0], ?_, List.getElem_mem this⟩
    show Option.map _ G[0]? = _
    rw [List.getElem?_eq_getElem this]
    rfl
  have el0 : (r0.map fun d => T.int (d : Nat)).length = W := by rw [List.length_map, D.row r0 hr0]
  have s1 : sAsg (eTup (aCons (eCall fLen (aCons (eOp TL.bIx (eVar 0) (eK (.int 0))) aNil)) (aCons (eCall fLen (aCons (eVar 0) aNil)) aNil))) (mgTup 2 (mgsCons (mgName 3) (mgsCons (mgName 4) mgsNil))) [some (gridT G), some (.int s), some (.int t), none, none, none, none] h = .nx [some (gridT G), some (.int s), some (.int t), some (.int (W : Nat)), some (.int (H : Nat)), none, none] h := by
    unfold gridT
    simp only [sAsg, eTup, aCons, aNil, eCall, eOp, eVar, eK, List.getElem?_cons_succ, List.getElem?_cons_zero, TL.bIx, TL.listOf, er0, fLen, seqOf, er, el0, mgTup, mgsCons, mgName, mgsNil, List.length_cons, List.length_nil, Nat.reduceAdd, Nat.reduceLeDiff, if_true, List.set_cons_succ, List.set_cons_zero]
  have inner : ∀ (k : Nat) (c : Option T), mLc (iRange1 (aCons (eVar 3) aNil)) [6] (mgName 6) bYes (eCall m_law_at (aCons (eVar 0) (aCons (eOp TL.bAdd (eVar 1) (eVar 6)) (aCons (eOp TL.bAdd (eVar 2) (eVar 5)) aNil)))) [some (gridT G), some (.int s), some (.int t), some (.int (W : Nat)), some (.int (H : Nat)), some (.int (k : Nat)), c] h = .ok ((List.range W).map fun (j : Nat) => T.int (cell G W H (s + (j : Int)) (t + k) : Nat)) h := by
    intro k c
    have z := mLc_map (mi := iRange1 (aCons (eVar 3) aNil)) (ws := [6]) (g := mgName 6) (e := eCall m_law_at (aCons (eVar 0) (aCons (eOp TL.bAdd (eVar 1) (eVar 6)) (aCons (eOp TL.bAdd (eVar 2) (eVar 5)) aNil)))) (τ := [some (gridT G), some (.int s), some (.int t), some (.int (W : Nat)), some (.int (H : Nat)), some (.int (k : Nat)), c]) (h := h)
      (rd := fun _ => some (rangeT 0 W)) (ts := rangeT 0 W) (by simp only [iRange1, aCons, aNil, eVar, List.getElem?_cons_succ, List.getElem?_cons_zero]; rw [if_pos ⟨by omega, by omega⟩, Int.toNat_natCast]) rfl (by rw [range_len]; omega)
      (fun u => match u with | .int j => .int (cell G W H (s + j) (t + k) : Nat) | u => u) (fun u hu => by
        obtain ⟨j, hj, rfl⟩ := List.getElem_of_mem hu
        obtain ⟨_, ej⟩ := range_at hj
        rw [ej, Int.zero_add]
        refine ⟨[some (gridT G), some (.int s), some (.int t), some (.int (W : Nat)), some (.int (H : Nat)), some (.int (k : Nat)), some (.int (j : Nat))], rfl, ?_⟩
        exact (call_ok (ts := [gridT G, .int (s + j), .int (t + k)]) rfl).trans (at_ok D _ _ h))
    rw [z]
    refine congrArg (fun l => Res.ok l h) ?_
    unfold rangeT
    rw [List.map_map]
    exact List.map_congr_left fun j _ => by simp [Function.comp]
  refine defM_rt rfl ((seq_nx s1).trans (ret_ok ?_))
  have z := mLc_map (mi := iRange1 (aCons (eVar 4) aNil)) (ws := [5]) (g := mgName 5) (e := eL (mLc (iRange1 (aCons (eVar 3) aNil)) [6] (mgName 6) bYes (eCall m_law_at (aCons (eVar 0) (aCons (eOp TL.bAdd (eVar 1) (eVar 6)) (aCons (eOp TL.bAdd (eVar 2) (eVar 5)) aNil)))))) (τ := [some (gridT G), some (.int s), some (.int t), some (.int (W : Nat)), some (.int (H : Nat)), none, none]) (h := h)
    (rd := fun _ => some (rangeT 0 H)) (ts := rangeT 0 H) (by simp only [iRange1, aCons, aNil, eVar, List.getElem?_cons_succ, List.getElem?_cons_zero]; rw [if_pos ⟨by omega, by omega⟩, Int.toNat_natCast]) rfl (by rw [range_len]; omega)
    (fun u => match u with | .int k => .lst ((List.range W).map fun (j : Nat) => T.int (cell G W H (s + (j : Int)) (t + k) : Nat)) | u => u) (fun u hu => by
      obtain ⟨k, hk, rfl⟩ := List.getElem_of_mem hu
      obtain ⟨_, ek⟩ := range_at hk
      rw [ek, Int.zero_add]
      exact ⟨[some (gridT G), some (.int s), some (.int t), some (.int (W : Nat)), some (.int (H : Nat)), some (.int (k : Nat)), none], rfl, eL_ok (inner k none)⟩)
  refine (eL_ok z).trans ?_
  refine congrArg (fun l => Res.ok (T.lst l) h) ?_
  unfold rangeT begun ofFn
  rw [List.map_map, List.map_map]
  refine List.map_congr_left fun k _ => ?_
  simp [Function.comp]
end
end K33

set_option Elab.async false
set_option linter.all false
set_option maxRecDepth 100000
set_option maxHeartbeats 400000
namespace K33
open PySem L2 TL KG
section
variable {G G' : List (List Nat)} {W H W' H' : Nat}
theorem Dim.ixRow' (D : Dim G W H) {α : Type} (f : List Nat → α) {y : Int} (h0 : 0 ≤ y) (h1 : y < H) : atI (G.map f) y = some (f (rowAt G H y)) := by
  have := D.ixRow f y
  rw [Int.emod_eq_of_lt h0 h1] at this
  exact this
theorem Dim.ixCell' (D : Dim G W H) {α : Type} (f : Nat → α) {x : Int} (y : Int) (h0 : 0 ≤ x) (h1 : x < W) : atI ((rowAt G H y).map f) x = some (f (cell G W H x y)) := by
  have := D.ixCell f x y
  rw [Int.emod_eq_of_lt h0 h1] at this
  exact this
def o1T : List T := [.int 0, .int 3, .int 6, .int 9, .int 2, .int 5, .int 8, .int 1, .int 4, .int 7]
def o2T : List T := [.int 0, .int 3, .int 2, .int 1, .int 6, .int 5, .int 4, .int 9, .int 8, .int 7]
theorem o1_at (d : Nat) (hd : d < 10) (h5 : d ≠ 5) : atI o1T (d : Int) = some (.int (oth1 d : Nat)) := ten (P := fun d => atI o1T (d : Int) = some (.int (oth1 d : Nat))) rfl rfl rfl rfl rfl rfl rfl rfl rfl d hd h5
theorem o2_at (d : Nat) (hd : d < 10) (h5 : d ≠ 5) : atI o2T (d : Int) = some (.int (oth2 d : Nat)) := ten (P := fun d => atI o2T (d : Int) = some (.int (oth2 d : Nat))) rfl rfl rfl rfl rfl rfl rfl rfl rfl d hd h5
theorem first_row (D : Dim G W H) : ∃ r0 : List Nat, atI (G.map fun r => T.lst (r.map fun d => .int (d : Nat))) 0 = some (.lst (r0.map fun d => .int (d : Nat))) ∧ (r0.map fun d => T.int (d : Nat)).length = W := by
  have er : (G.map fun r => T.lst (r.map fun d => .int (d : Nat))).length = H := by rw [List.length_map, D.len]
  have h0 := D.h0
  have this : (0 : Nat) < G.length := by rw [D.len]; exact D.h0
  refine ⟨G[0], ?_, by rw [List.length_map]; exact D.row _ (List.getElem_mem this)⟩
  rw [ix_nn (Int.le_refl _) (by rw [er]; omega), List.getElem?_map]
  show Option.map _ G[0]? = _
  rw [List.getElem?_eq_getElem this]
  rfl
theorem turned_ok (D : Dim G W H) (M : Mut G W H) (h : VH) : m_law_turned [gridT G] h = .ok (gridT (turned G W H)) h := by
  have h0 := D.h0
  have h1 := D.h1
  have w0 := D.w0
  have w1 := D.w1
  have er : (G.map fun r => T.lst (r.map fun d => .int (d : Nat))).length = H := by rw [List.length_map, D.len]
  obtain ⟨r0, er0, el0⟩ := first_row D
  have s1 : sAsg (eTup (aCons (eCall fLen (aCons (eOp TL.bIx (eVar 0) (eK (.int 0))) aNil)) (aCons (eCall fLen (aCons (eVar 0) aNil)) (aCons (eL (aLim (aCons (eK (.int 0)) (aCons (eK (.int 3)) (aCons (eK (.int 6)) (aCons (eK (.int 9)) (aCons (eK (.int 2)) (aCons (eK (.int 5)) (aCons (eK (.int 8)) (aCons (eK (.int 1)) (aCons (eK (.int 4)) (aCons (eK (.int 7)) aNil)))))))))))) aNil)))) (mgTup 3 (mgsCons (mgName 1) (mgsCons (mgName 2) (mgsCons (mgName 3) mgsNil)))) [some (gridT G), none, none, none, none, none] h = .nx [some (gridT G), some (.int (W : Nat)), some (.int (H : Nat)), some (.lst o1T), none, none] h := by
    unfold gridT o1T
    simp only [sAsg, eTup, aCons, aNil, eCall, eOp, eVar, eK, eL, aLim, List.getElem?_cons_succ, List.getElem?_cons_zero, TL.bIx, TL.listOf, er0, fLen, seqOf, er, el0, mgTup, mgsCons, mgName, mgsNil, List.length_cons, List.length_nil, Nat.reduceAdd, Nat.reduceLeDiff, if_true, List.set_cons_succ, List.set_cons_zero]
  have inner : ∀ (k : Nat) (hk : k < W) (c : Option T), mLc (iRange1 (aCons (eVar 2) aNil)) [5] (mgName 5) bYes (eOp TL.bIx (eVar 3) (eOp TL.bIx (eOp TL.bIx (eVar 0) (eOp TL.bSub (eOp TL.bSub (eVar 2) (eK (.int 1))) (eVar 5))) (eVar 4))) [some (gridT G), some (.int (W : Nat)), some (.int (H : Nat)), some (.lst o1T), some (.int (k : Nat)), c] h = .ok ((List.range H).map fun (j : Nat) => T.int (oth1 (cell G W H (k : Nat) ((H : Int) - 1 - (j : Int))) : Nat)) h := by
    intro k hk c
    have z := mLc_map (mi := iRange1 (aCons (eVar 2) aNil)) (ws := [5]) (g := mgName 5) (e := eOp TL.bIx (eVar 3) (eOp TL.bIx (eOp TL.bIx (eVar 0) (eOp TL.bSub (eOp TL.bSub (eVar 2) (eK (.int 1))) (eVar 5))) (eVar 4))) (τ := [some (gridT G), some (.int (W : Nat)), some (.int (H : Nat)), some (.lst o1T), some (.int (k : Nat)), c]) (h := h)
      (rd := fun _ => some (rangeT 0 H)) (ts := rangeT 0 H) (by simp only [iRange1, aCons, aNil, eVar, List.getElem?_cons_succ, List.getElem?_cons_zero]; rw [if_pos ⟨by omega, by omega⟩, Int.toNat_natCast]) rfl (by rw [range_len]; omega)
      (fun u => match u with | .int j => T.int (oth1 (cell G W H (k : Nat) ((H : Int) - 1 - j)) : Nat) | u => u) (fun u hu => by
        obtain ⟨j, hj, rfl⟩ := List.getElem_of_mem hu
        obtain ⟨hjH, ej⟩ := range_at hj
        rw [ej, Int.zero_add]
        refine ⟨[some (gridT G), some (.int (W : Nat)), some (.int (H : Nat)), some (.lst o1T), some (.int (k : Nat)), some (.int (j : Nat))], rfl, ?_⟩
        have i1 := D.ixRow' (fun r => T.lst (r.map fun d => .int (d : Nat))) (y := (H : Int) - 1 - (j : Int)) (by omega) (by omega)
        have i2 := D.ixCell' (fun d => T.int (d : Nat)) (x := (k : Int)) ((H : Int) - 1 - (j : Int)) (by omega) (by omega)
        have i3 := o1_at _ (M.lt (k : Nat) ((H : Int) - 1 - (j : Int))) (M.n5 (k : Nat) ((H : Int) - 1 - (j : Int)))
        unfold gridT
        simp only [eOp, eVar, eK, List.getElem?_cons_succ, List.getElem?_cons_zero, TL.bSub, bI0, TL.bIx, TL.listOf, i1, i2, i3])
    rw [z]
    refine congrArg (fun l => Res.ok l h) ?_
    unfold rangeT
    rw [List.map_map]
    exact List.map_congr_left fun j _ => by simp [Function.comp]
  refine defM_rt rfl ((seq_nx s1).trans (ret_ok ?_))
  have z := mLc_map (mi := iRange1 (aCons (eVar 1) aNil)) (ws := [4]) (g := mgName 4) (e := eL (mLc (iRange1 (aCons (eVar 2) aNil)) [5] (mgName 5) bYes (eOp TL.bIx (eVar 3) (eOp TL.bIx (eOp TL.bIx (eVar 0) (eOp TL.bSub (eOp TL.bSub (eVar 2) (eK (.int 1))) (eVar 5))) (eVar 4))))) (τ := [some (gridT G), some (.int (W : Nat)), some (.int (H : Nat)), some (.lst o1T), none, none]) (h := h)
    (rd := fun _ => some (rangeT 0 W)) (ts := rangeT 0 W) (by simp only [iRange1, aCons, aNil, eVar, List.getElem?_cons_succ, List.getElem?_cons_zero]; rw [if_pos ⟨by omega, by omega⟩, Int.toNat_natCast]) rfl (by rw [range_len]; omega)
    (fun u => match u with | .int k => .lst ((List.range H).map fun (j : Nat) => T.int (oth1 (cell G W H k ((H : Int) - 1 - (j : Int))) : Nat)) | u => u) (fun u hu => by
      obtain ⟨k, hk, rfl⟩ := List.getElem_of_mem hu
      obtain ⟨hkW, ek⟩ := range_at hk
      rw [ek, Int.zero_add]
      exact ⟨[some (gridT G), some (.int (W : Nat)), some (.int (H : Nat)), some (.lst o1T), some (.int (k : Nat)), none], rfl, eL_ok (inner k hkW none)⟩)
  refine (eL_ok z).trans ?_
  refine congrArg (fun l => Res.ok (T.lst l) h) ?_
  unfold rangeT turned ofFn
  rw [List.map_map, List.map_map]
  refine List.map_congr_left fun k _ => ?_
  simp [Function.comp]
theorem mirrored_ok (D : Dim G W H) (M : Mut G W H) (h : VH) : m_law_mirrored [gridT G] h = .ok (gridT (mirrored G)) h := by
  have A := mut_digs D M
  have h1 := D.h1
  have w1 := D.w1
  have inner : ∀ (r : List Nat) (hr : r ∈ G) (c : Option T), mLc (iSeqC (eRev (eVar 2))) [3] (mgName 3) bYes (eOp TL.bIx (eVar 1) (eVar 3)) [some (gridT G), some (.lst o2T), some (.lst (r.map fun d => .int (d : Nat))), c] h = .ok (r.reverse.map fun d => .int (oth2 d : Nat)) h := by
    intro r hr c
    have z := mLc_map (mi := iSeqC (eRev (eVar 2))) (ws := [3]) (g := mgName 3) (e := eOp TL.bIx (eVar 1) (eVar 3)) (τ := [some (gridT G), some (.lst o2T), some (.lst (r.map fun d => .int (d : Nat))), c]) (h := h)
      (rd := fun h => seqS h (.lst (r.map fun d => T.int (d : Nat)).reverse)) (ts := r.reverse.map fun d => T.int (d : Nat))
      (by simp [iSeqC, eRev, eVar, walkable, seqS, seqOf, TL.listOf]) (by simp [seqS, seqOf, TL.listOf]) (by rw [List.length_map, List.length_reverse, D.row r hr]; omega)
      (fun u => match u with | .int d => .int (oth2 d.toNat : Nat) | u => u) (fun u hu => by
        obtain ⟨d, hd, rfl⟩ := List.mem_map.mp hu
        have hd' : d ∈ r := by simpa using hd
        refine ⟨[some (gridT G), some (.lst o2T), some (.lst (r.map fun d => .int (d : Nat))), some (.int (d : Nat))], rfl, ?_⟩
        have i3 := o2_at d (A.lt r hr d hd') (A.n5 r hr d hd')
        simp only [eOp, eVar, List.getElem?_cons_succ, List.getElem?_cons_zero, TL.bIx, TL.listOf, i3, Int.toNat_natCast])
    rw [z, List.map_map]
    rfl
  have s1 : sSet 1 (eL (aLim (aCons (eK (.int 0)) (aCons (eK (.int 3)) (aCons (eK (.int 2)) (aCons (eK (.int 1)) (aCons (eK (.int 6)) (aCons (eK (.int 5)) (aCons (eK (.int 4)) (aCons (eK (.int 9)) (aCons (eK (.int 8)) (aCons (eK (.int 7)) aNil)))))))))))) [some (gridT G), none, none, none] h = .nx [some (gridT G), some (.lst o2T), none, none] h := by
    unfold o2T
    simp only [sSet, eL, aLim, aCons, aNil, eK, List.length_cons, List.length_nil, Nat.reduceAdd, Nat.reduceLeDiff, if_true, List.set_cons_succ, List.set_cons_zero]
  refine defM_rt rfl ((seq_nx s1).trans (ret_ok ?_))
  have z := mLc_map (mi := iSeqC (eVar 0)) (ws := [2]) (g := mgName 2) (e := eL (mLc (iSeqC (eRev (eVar 2))) [3] (mgName 3) bYes (eOp TL.bIx (eVar 1) (eVar 3)))) (τ := [some (gridT G), some (.lst o2T), none, none]) (h := h)
    (rd := fun h => seqS h (gridT G)) (ts := G.map fun r => T.lst (r.map fun d => .int (d : Nat))) (by simp [iSeqC, eVar, gridT, walkable, seqS, seqOf, TL.listOf]) (by simp [gridT, seqS, seqOf, TL.listOf]) (by rw [List.length_map, D.len]; omega)
    (fun u => match u with | .lst ts => .lst (ts.reverse.map fun v => match v with | .int d => .int (oth2 d.toNat : Nat) | v => v) | u => u) (fun u hu => by
      obtain ⟨r, hr, rfl⟩ := List.mem_map.mp hu
      refine ⟨[some (gridT G), some (.lst o2T), some (.lst (r.map fun d => .int (d : Nat))), none], rfl, (eL_ok (inner r hr none)).trans ?_⟩
      refine congrArg (fun l => Res.ok (T.lst l) h) ?_
      rw [← List.map_reverse, List.map_map]
      rfl)
  refine (eL_ok z).trans ?_
  refine congrArg (fun l => Res.ok (T.lst l) h) ?_
  unfold mirrored
  rw [List.map_map, List.map_map]
  refine List.map_congr_left fun r _ => ?_
  simp only [Function.comp, ← List.map_reverse, List.map_map]
  rfl
/-- [row + row for row in grid] -/
theorem wide_ok (D : Dim G W H) (g : Option T → TS_) (hg : ∀ c, (g c)[3]? = some (some (gridT G)) ∧ wipeT (g c) [8] = g none ∧ (∀ t h, mgName 8 t (g none) h = .ok (g (some t)) h) ∧ ∀ t, (g (some t))[8]? = some (some t)) (c : Option T) (h : VH) :
    mLc (iSeqC (eVar 3)) [8] (mgName 8) bYes (eOp TL.bAdd (eVar 8) (eVar 8)) (g c) h = .ok (((G.map fun r => r ++ r)).map fun r => T.lst (r.map fun d => .int (d : Nat))) h := by
  have h1 := D.h1
  have w1 := D.w1
  obtain ⟨g1, g2, g3, g4⟩ := hg c
  have z := mLc_map (mi := iSeqC (eVar 3)) (ws := [8]) (g := mgName 8) (e := eOp TL.bAdd (eVar 8) (eVar 8)) (τ := g c) (h := h) (rd := fun h => seqS h (gridT G)) (ts := G.map fun r => T.lst (r.map fun d => .int (d : Nat)))
    (by simp [iSeqC, eVar, g1, gridT, walkable, seqS, seqOf, TL.listOf]) (by simp [gridT, seqS, seqOf, TL.listOf]) (by rw [List.length_map, D.len]; omega)
    (fun u => match u with | .lst ts => .lst (ts ++ ts) | u => u) (fun u hu => by
      obtain ⟨r, hr, rfl⟩ := List.mem_map.mp hu
      refine ⟨g (some (.lst (r.map fun d => .int (d : Nat)))), by rw [g2]; exact g3 _ _, ?_⟩
      have e := D.row r hr
      simp only [eOp, eVar, g4, TL.bAdd, TL.listOf, List.length_map]
      rw [if_pos (by rw [e]; omega)])
  rw [z, List.map_map, List.map_map]
  refine congrArg (fun l => Res.ok l h) (List.map_congr_left fun r _ => ?_)
  simp only [Function.comp, List.map_append]
theorem high_ok (D : Dim G W H) (h : VH) : TL.bAdd (gridT G) (gridT G) h = .ok (gridT (G ++ G)) h := by
  unfold gridT
  have e := D.len
  have h1 := D.h1
  simp only [TL.bAdd, TL.listOf, List.length_map, List.map_append]
  rw [if_pos (by rw [e]; omega)]
end
end K33

set_option Elab.async false
set_option linter.all false
set_option maxRecDepth 100000
set_option maxHeartbeats 400000
namespace K33
open PySem L2 TL KG
section
variable {G G' : List (List Nat)} {W H W' H' : Nat}
def put (G : List (List Nat)) (x y d : Nat) : List (List Nat) := G.set y ((G.getD y []).set x d)
theorem put_dim (D : Dim G W H) {x y d : Nat} (hy : y < H) : Dim (put G x y d) W H := by
  refine ⟨by simp [put, D.len], D.h0, D.h1, fun r hr => ?_, D.w0, D.w1⟩
  have hg : G.getD y [] ∈ G := by
    rw [List.getD_eq_getElem?_getD, List.getElem?_eq_getElem (by rw [D.len]; exact hy)]
    exact List.getElem_mem _
  rcases List.mem_or_eq_of_mem_set hr with z | rfl
  · exact D.row r z
  · rw [List.length_set]
    exact D.row _ hg
theorem put_cell (D : Dim G W H) {x y d : Nat} (hx : x < W) (hy : y < H) (s t : Int) : cell (put G x y d) W H s t = if s % W = x ∧ t % H = y then d else cell G W H s t := by
  have a := mod_lt' t D.h0
  have b := mod_lt' s D.w0
  have a0 := Int.emod_nonneg t (b := (H : Int)) (by omega)
  have b0 := Int.emod_nonneg s (b := (W : Int)) (by omega)
  have hl : G.length = H := D.len
  unfold cell rowAt put
  by_cases q : t % (H : Int) = (y : Int)
  · have hg : G.getD y [] ∈ G := by
      rw [List.getD_eq_getElem?_getD, List.getElem?_eq_getElem (by rw [D.len]; exact hy)]
      exact List.getElem_mem _
    have hr := D.row _ hg
    have e1 : (t % (H : Int)).toNat = y := by omega
    rw [e1]
    have e2 : (G.set y ((G.getD y []).set x d)).getD y [] = (G.getD y []).set x d := by
      rw [List.getD_eq_getElem?_getD, List.getElem?_set_self (by rw [hl]; exact hy)]
      rfl
    rw [e2]
    by_cases p : s % (W : Int) = (x : Int)
    · rw [if_pos ⟨p, q⟩]
      have e3 : (s % (W : Int)).toNat = x := by omega
      rw [e3, List.getD_eq_getElem?_getD, List.getElem?_set_self (by rw [hr]; exact hx)]
      rfl
    · rw [if_neg fun z => p z.1]
      rw [List.getD_eq_getElem?_getD, List.getElem?_set_ne (by omega), ← List.getD_eq_getElem?_getD]
  · rw [if_neg fun z => q z.2]
    have e2 : (G.set y ((G.getD y []).set x d)).getD (t % (H : Int)).toNat [] = G.getD (t % (H : Int)).toNat [] := by
      rw [List.getD_eq_getElem?_getD, List.getElem?_set_ne (by omega), ← List.getD_eq_getElem?_getD]
    rw [e2]
def IsW (d : Nat) : Prop := d = 6 ∨ d = 8 ∨ d = 9 ∨ d = 7
theorem put_mut (D : Dim G W H) (M : Mut G W H) {x y x' y' d : Nat} (hd : IsW d) (hx : x < W) (hy : y < H) (ex : ((x : Int) + sx d) % W = x') (ey : ((y : Int) + sy d) % H = y') (ne : ¬ (x' = x ∧ y' = y)) (c0 : cell G W H x y = 0) (c1 : cell G W H x' y' = 0) : Mut (put (put G x y d) x' y' (10 - d)) W H := by
  have w0 := D.w0
  have h0 := D.h0
  have hx' : x' < W := by have := Int.emod_lt_of_pos ((x : Int) + sx d) (b := (W : Int)) (by omega); omega
  have hy' : y' < H := by have := Int.emod_lt_of_pos ((y : Int) + sy d) (b := (H : Int)) (by omega); omega
  have D1 := put_dim (x := x) (d := d) D hy
  have pc : ∀ s t, cell (put (put G x y d) x' y' (10 - d)) W H s t = if s % W = x' ∧ t % H = y' then 10 - d else if s % W = x ∧ t % H = y then d else cell G W H s t := fun s t => by
    rw [put_cell D1 hx' hy', put_cell D hx hy]
  have s1 : sx (10 - d) = - sx d ∧ sy (10 - d) = - sy d := by rcases hd with rfl | rfl | rfl | rfl <;> decide
  have bx : ((x' : Int) + sx (10 - d)) % W = x := by
    rw [s1.1, ← ex, Int.emod_add_emod, Int.add_neg_cancel_right, Int.emod_eq_of_lt (by omega) (by omega)]
  have bY : ((y' : Int) + sy (10 - d)) % H = y := by
    rw [s1.2, ← ey, Int.emod_add_emod, Int.add_neg_cancel_right, Int.emod_eq_of_lt (by omega) (by omega)]
  have cg : ∀ s t, s % (W : Int) = x → t % (H : Int) = y → cell G W H s t = 0 := fun s t a b => by
    rw [← c0]
    apply cell_congr
    · rw [a, Int.emod_eq_of_lt (by omega) (by omega)]
    · rw [b, Int.emod_eq_of_lt (by omega) (by omega)]
  have cg' : ∀ s t, s % (W : Int) = x' → t % (H : Int) = y' → cell G W H s t = 0 := fun s t a b => by
    rw [← c1]
    apply cell_congr
    · rw [a, Int.emod_eq_of_lt (by omega) (by omega)]
    · rw [b, Int.emod_eq_of_lt (by omega) (by omega)]
  refine ⟨fun s t => ?_, fun s t => ?_, fun s t nz => ?_⟩
  · rw [pc]
    have := M.lt s t
    unfold IsW at hd
    split
    · omega
    · split <;> omega
  · rw [pc]
    have := M.n5 s t
    unfold IsW at hd
    split
    · omega
    · split <;> omega
  · rw [pc s t] at nz ⊢
    by_cases q : s % (W : Int) = x' ∧ t % (H : Int) = y'
    · rw [if_pos q]
      have e1 : (s + sx (10 - d)) % W = x := by rw [← bx, ← q.1, Int.emod_add_emod]
      have e2 : (t + sy (10 - d)) % H = y := by rw [← bY, ← q.2, Int.emod_add_emod]
      rw [pc, if_neg (by rw [e1, e2]; intro z; exact ne ⟨by omega, by omega⟩), if_pos ⟨e1, e2⟩]
      unfold IsW at hd
      omega
    · rw [if_neg q] at nz ⊢
      by_cases p : s % (W : Int) = x ∧ t % (H : Int) = y
      · rw [if_pos p]
        have e1 : (s + sx d) % W = x' := by rw [← ex, ← p.1, Int.emod_add_emod]
        have e2 : (t + sy d) % H = y' := by rw [← ey, ← p.2, Int.emod_add_emod]
        rw [pc, if_pos ⟨e1, e2⟩]
        unfold IsW at hd
        omega
      · rw [if_neg p] at nz ⊢
        have m := M.mate s t nz
        have l := M.lt s t
        rw [pc, if_neg (fun z => by have := cg' _ _ z.1 z.2; omega), if_neg (fun z => by have := cg _ _ z.1 z.2; omega)]
        exact m
theorem zero_dim (w0 : 0 < W) (w1 : W ≤ 12) (h0 : 0 < H) (h1 : H ≤ 12) : Dim (List.replicate H (List.replicate W 0)) W H :=
  ⟨by simp, h0, h1, fun r hr => by rw [(List.mem_replicate.mp hr).2]; simp, w0, w1⟩
theorem zero_cell (w0 : 0 < W) (h0 : 0 < H) (x y : Int) : cell (List.replicate H (List.replicate W 0)) W H x y = 0 := by
  unfold cell rowAt
  have a := mod_lt' y h0
  have b := mod_lt' x w0
  rw [List.getD_eq_getElem?_getD, List.getD_eq_getElem?_getD, List.getElem?_replicate, if_pos a, Option.getD_some, List.getElem?_replicate, if_pos b]
  rfl
theorem zero_mut (w0 : 0 < W) (h0 : 0 < H) : Mut (List.replicate H (List.replicate W 0)) W H :=
  ⟨fun x y => by rw [zero_cell w0 h0]; omega, fun x y => by rw [zero_cell w0 h0]; omega, fun x y z => (z (zero_cell w0 h0 x y)).elim⟩
/-! the heap -/
def AllP (h : VH) : Prop := ∀ o ∈ h, IsP o
theorem AllP.low {h : VH} (a : AllP h) (n : Nat) : h.all (VO.lowR n) = true := by
  rw [List.all_eq_true]
  intro o ho
  obtain ⟨x, y, z, rfl, _⟩ := a o ho
  rfl
theorem AllP.pu {h : VH} (a : AllP h) {n : Nat} (hn : n < h.length) : Pu n h := ⟨h[n], List.getElem?_eq_getElem hn, a _ (List.getElem_mem hn)⟩
theorem AllP.set {h : VH} (a : AllP h) {n : Nat} {o : VO} (ho : IsP o) : AllP (h.set n o) := fun p hp => by
  rcases List.mem_or_eq_of_mem_set hp with z | rfl
  · exact a p z
  · exact ho
theorem roll_on {n : Nat} {h R : VH} {k : Int} (a : AllP h) (hn : n < h.length) (hk : 0 < k) (hk2 : k < 1000000) : ∃ (r : Nat) (h' : VH), m_law_roll [.ref n, .int k] (h ++ R) = .ok (.int (r : Nat)) (h' ++ R) ∧ (r : Int) < k ∧ AllP h' ∧ h'.length = h.length := by
  have hp : Pu n (h ++ R) := by
    obtain ⟨o, e, i⟩ := a.pu hn
    exact ⟨o, by rw [List.getElem?_append_left hn]; exact e, i⟩
  obtain ⟨r, o, e, r0, r1, io⟩ := roll_ok hp hk hk2
  refine ⟨r.toNat, h.set n o, ?_, by omega, a.set io, List.length_set⟩
  rw [e, List.set_append_left _ _ hn]
  refine congrArg (fun i => Res.ok (T.int i) _) ?_
  omega
theorem pick_ok {n : Nat} {h R : VH} (a : AllP h) (hn : n < h.length) : ∃ (d : Nat) (h' : VH), m_law_pick [.ref n, .lst [.int 6, .int 6, .int 8, .int 9, .int 7]] (h ++ R) = .ok (.int (d : Nat)) (h' ++ R) ∧ IsW d ∧ AllP h' ∧ h'.length = h.length := by
  obtain ⟨r, h', e, r1, a', l'⟩ := roll_on (R := R) (k := 5) a hn (by omega) (by omega)
  have key : ∀ d : Nat, TL.bIx (.lst [.int 6, .int 6, .int 8, .int 9, .int 7]) (.int (r : Nat)) (h' ++ R) = .ok (.int (d : Nat)) (h' ++ R) → m_law_pick [.ref n, .lst [.int 6, .int 6, .int 8, .int 9, .int 7]] (h ++ R) = .ok (.int (d : Nat)) (h' ++ R) := by
    intro d hd
    refine defM_rt rfl (ret_ok ?_)
    refine (op_ok (t := .lst [.int 6, .int 6, .int 8, .int 9, .int 7]) (u := .int (r : Nat)) (h1 := h ++ R) (h2 := h' ++ R) rfl ?_).trans hd
    exact (call_ok (ts := [.ref n, .int 5]) rfl).trans e
  have : r = 0 ∨ r = 1 ∨ r = 2 ∨ r = 3 ∨ r = 4 := by omega
  rcases this with rfl | rfl | rfl | rfl | rfl
  · exact ⟨6, h', key 6 rfl, .inl rfl, a', l'⟩
  · exact ⟨6, h', key 6 rfl, .inl rfl, a', l'⟩
  · exact ⟨8, h', key 8 rfl, .inr (.inl rfl), a', l'⟩
  · exact ⟨9, h', key 9 rfl, .inr (.inr (.inl rfl)), a', l'⟩
  · exact ⟨7, h', key 7 rfl, .inr (.inr (.inr rfl)), a', l'⟩
theorem shift_ok {d : Nat} (hd : IsW d) (h : VH) : m_law_shift [.int (d : Nat)] h = .ok (.tup [.int (sx d), .int (sy d)]) h := by
  rcases hd with rfl | rfl | rfl | rfl <;> rfl
end
end K33

set_option Elab.async false
set_option linter.all false
set_option maxRecDepth 100000
set_option maxHeartbeats 400000
namespace K33
open PySem L2 TL KG
section
variable {G G' : List (List Nat)} {W H W' H' : Nat}
theorem lcL_fresh {rd : VH → Option (List T)} {g : MG} {e : ME} {τ : TS_} {ts : List T} (hrd : ∀ h, rd h = some ts) {xs : List T} (hb : ∀ t ∈ ts, ∀ h, ∃ τ1, g t τ h = .ok τ1 h ∧ e τ1 h = .ok (.ref h.length) (h ++ [.lst xs])) :
    ∀ (k i : Nat) (acc : List T) (h : VH), i + k = ts.length → lcL rd g bYes e τ ts.length k i acc h = .ok (acc ++ (List.range k).map fun j => T.ref (h.length + j)) (h ++ List.replicate k (.lst xs)) := by
  intro k
  induction k with
  | zero =>
    intro i acc h hi
    simp [lcL, hrd]
  | succ k ih =>
    intro i acc h hi
    have hlt : i < ts.length := by omega
    have e1 : ts[i]? = some ts[i] := List.getElem?_eq_getElem hlt
    obtain ⟨τ1, h1, h3⟩ := hb ts[i] (List.getElem_mem hlt) h
    have z := ih (i + 1) (acc ++ [.ref h.length]) (h ++ [.lst xs]) (by omega)
    have h2 : bYes τ1 h = .ok true h := rfl
    simp only [lcL, hrd, e1, h1, h2, h3, if_true]
    rw [z, List.range_succ_eq_map, List.map_cons, List.map_map, List.append_assoc, List.append_assoc, List.replicate_succ]
    simp only [List.length_append, List.length_cons, List.length_nil, List.singleton_append, Nat.add_zero]
    refine congrArg (fun l => Res.ok (acc ++ T.ref h.length :: l) _) ?_
    refine List.map_congr_left fun j _ => ?_
    simp only [Function.comp]
    refine congrArg T.ref ?_
    omega
def rowsV (G : List (List Nat)) : VH := G.map fun r => .lst (r.map fun d => T.int (d : Nat))
def refsT (n H : Nat) : T := .lst ((List.range H).map fun j => .ref (n + j))
theorem rowsV_at (D : Dim G W H) {h : VH} {y : Nat} (hy : y < H) : (h ++ rowsV G)[h.length + y]? = some (.lst ((G.getD y []).map fun d => T.int (d : Nat))) := by
  rw [List.getElem?_append_right (by omega), Nat.add_sub_cancel_left]
  unfold rowsV
  rw [List.getElem?_map, List.getElem?_eq_getElem (by rw [D.len]; exact hy), List.getD_eq_getElem?_getD, List.getElem?_eq_getElem (by rw [D.len]; exact hy)]
  rfl
theorem refs_at (n : Nat) {y : Nat} (hy : y < H) (h : VH) : TL.bIx (refsT n H) (.int (y : Nat)) h = .ok (.ref (n + y)) h := by
  have e : atI ((List.range H).map fun j => T.ref (n + j)) ((y : Nat) : Int) = some (.ref (n + y)) := by
    rw [ix_nn (by omega) (by simp; omega), List.getElem?_map, Int.toNat_natCast, List.getElem?_range hy]
    rfl
  unfold refsT
  simp only [TL.bIx, TL.listOf, e]
theorem cell_at (D : Dim G W H) {h : VH} {x y : Nat} (hx : x < W) (hy : y < H) : TL.bIx (.ref (h.length + y)) (.int (x : Nat)) (h ++ rowsV G) = .ok (.int (cell G W H x y : Nat)) (h ++ rowsV G) := by
  have e1 := rowsV_at D (h := h) hy
  have hr : G.getD y [] ∈ G := by
    rw [List.getD_eq_getElem?_getD, List.getElem?_eq_getElem (by rw [D.len]; exact hy)]
    exact List.getElem_mem _
  have hl := D.row _ hr
  have e2 : atI ((G.getD y []).map fun d => T.int (d : Nat)) ((x : Nat) : Int) = some (.int (cell G W H x y : Nat)) := by
    rw [ix_nn (by omega) (by rw [List.length_map, hl]; omega), List.getElem?_map, Int.toNat_natCast, cell_nat D hy hx, List.getD_eq_getElem?_getD (l := G.getD y []), List.getElem?_eq_getElem (by rw [hl]; exact hx)]
    rfl
  simp only [TL.bIx, TL.listOf, e1, e2]
theorem set_at (D : Dim G W H) {h : VH} {x y d : Nat} (hx : x < W) (hy : y < H) : bSetL (.ref (h.length + y)) (.int (x : Nat)) (.int (d : Nat)) (h ++ rowsV G) = .ok () (h ++ rowsV (put G x y d)) := by
  have e1 := rowsV_at D (h := h) hy
  have hr : G.getD y [] ∈ G := by
    rw [List.getD_eq_getElem?_getD, List.getElem?_eq_getElem (by rw [D.len]; exact hy)]
    exact List.getElem_mem _
  have hl := D.row _ hr
  have e2 : ixN ((G.getD y []).map fun d => T.int (d : Nat)).length ((x : Nat) : Int) = some x := by
    unfold ixN
    rw [if_pos (by omega), List.length_map, hl, if_pos (by omega), Int.toNat_natCast]
  unfold bSetL
  simp only [e1, e2]
  rw [List.set_append_right _ _ (by omega), Nat.add_sub_cancel_left]
  unfold rowsV put
  rw [List.map_set, List.map_set]
theorem mod_ix (x : Int) {n : Nat} (h : 0 < n) : ∃ m : Nat, x % (n : Int) = (m : Nat) ∧ m < n := by
  have a := Int.emod_nonneg x (b := (n : Int)) (by omega)
  have b := Int.emod_lt_of_pos x (b := (n : Int)) (by omega)
  exact ⟨(x % (n : Int)).toNat, by omega, by omega⟩
theorem bNe_pair (a b c d : Int) (h : VH) : bNe (.tup [.int a, .int b]) (.tup [.int c, .int d]) h = .ok (.bl (!decide (a = c ∧ b = d))) h := by
  have e : ∀ p q : Int, T.dat h 10 (.tup [.int p, .int q]) = some (.tuple [.int p, .int q]) := fun p q => rfl
  unfold bNe bEqG
  rw [e, e]
  simp only [PyData.eqv]
  refine congrArg (fun z => Res.ok (T.bl z) h) ?_
  by_cases p : a = c <;> by_cases q : b = d <;> simp [p, q, PyData.eqvAll, PyData.eqv]
theorem bEq_zero (d : Nat) (h : VH) : TL.bEq (.int (d : Nat)) (.int 0) h = .ok (.bl (decide (d = 0))) h := by
  unfold TL.bEq bEqG
  simp only [dat_int, PyData.eqv]
  refine congrArg (fun z => Res.ok (T.bl z) h) ?_
  by_cases p : d = 0 <;> simp [p]
end
end K33

set_option Elab.async false
set_option linter.all false
set_option maxRecDepth 100000
set_option maxHeartbeats 400000
namespace K33
open PySem L2 TL KG
section
variable {G G' : List (List Nat)} {W H W' H' : Nat}
def gb1 : MS := (sPar3 7 8 9 (aCons (eCall m_law_roll (aCons (eVar 0) (aCons (eVar 2) aNil))) (aCons (eCall m_law_roll (aCons (eVar 0) (aCons (eVar 3) aNil))) (aCons (eCall m_law_pick (aCons (eVar 0) (aCons (eL (aLim (aCons (eK (.int 6)) (aCons (eK (.int 6)) (aCons (eK (.int 8)) (aCons (eK (.int 9)) (aCons (eK (.int 7)) aNil))))))) aNil))) aNil))))
def gb2 : MS := (sSet 10 (eCall m_law_shift (aCons (eVar 9) aNil)))
def gb3 : MS := (sSet 11 (eTup (aCons (eOp bMod (eCall fInt (aCons (eOp bAdd (eVar 7) (eOp bIx (eVar 10) (eK (.int 0)))) aNil)) (eVar 2)) (aCons (eOp bMod (eCall fInt (aCons (eOp bAdd (eVar 8) (eOp bIx (eVar 10) (eK (.int 1)))) aNil)) (eVar 3)) aNil))))
def gc : MB := (bAnd (bTest (eOp bNe (eVar 11) (eTup (aCons (eVar 7) (aCons (eVar 8) aNil))))) (bAnd (bTest (eOp bEq (eOp bIx (eOp bIx (eVar 4) (eVar 8)) (eVar 7)) (eK (.int 0)))) (bTest (eOp bEq (eOp bIx (eOp bIx (eVar 4) (eOp bIx (eVar 11) (eK (.int 1)))) (eOp bIx (eVar 11) (eK (.int 0)))) (eK (.int 0))))))
def gs1 : MS := (sAsg (eVar 9) (mgSub bSetL (eOp bIx (eVar 4) (eVar 8)) (eVar 7)))
def gs2 : MS := (sAsg (eOp bSub (eK (.int 10)) (eVar 9)) (mgSub bSetL (eOp bIx (eVar 4) (eOp bIx (eVar 11) (eK (.int 1)))) (eOp bIx (eVar 11) (eK (.int 0)))))
def gbody : MS := sSeq gb1 (sSeq gb2 (sSeq gb3 (sIf gc (sSeq gs1 gs2) sNil)))
def ga1 : MS := (sAsg (eTup (aCons (eOp bAdd (eK (.int 1)) (eCall m_law_roll (aCons (eVar 0) (aCons (eVar 1) aNil)))) (aCons (eOp bAdd (eK (.int 1)) (eCall m_law_roll (aCons (eVar 0) (aCons (eVar 1) aNil)))) aNil))) (mgTup 2 (mgsCons (mgName 2) (mgsCons (mgName 3) mgsNil))))
def ga2 : MS := (sSet 4 (eL (mLc (iRange1 (aCons (eVar 3) aNil)) [5] (mgName 5) bYes (eH (mMul (eL (aLim (aCons (eK (.int 0)) aNil))) (eVar 2))))))
theorem grid_eq : s_law_grid = sSeq ga1 (sSeq ga2 (sSeq (sFor (iRange1 (aCons (eOp bAdd (eK (.int 2)) (eOp bMul (eVar 2) (eVar 3))) aNil)) (mgName 6) gbody) (sRet (eVar 4)))) := rfl
theorem fInt_int (i : Int) (h : VH) : fInt [.int i] h = .ok (.int i) h := rfl
def gst (n W H L : Nat) (a b c d e f g : Option T) : TS_ := [some (.ref n), some (.int 5), some (.int (W : Nat)), some (.int (H : Nat)), some (refsT L H), a, b, c, d, e, f, g]
theorem gb_ok (D : Dim G W H) (M : Mut G W H) {n : Nat} {h : VH} (A : AllP h) (hn : n < h.length) (a b c d e f g : Option T) : ∃ (h' : VH) (G' : List (List Nat)) (c' d' e' f' g' : Option T), gbody (gst n W H h.length a b c d e f g) (h ++ rowsV G) = .nx (gst n W H h.length a b c' d' e' f' g') (h' ++ rowsV G') ∧ AllP h' ∧ h'.length = h.length ∧ Dim G' W H ∧ Mut G' W H := by
  have w0 := D.w0
  have w1 := D.w1
  have h0 := D.h0
  have h1 := D.h1
  obtain ⟨x, ha, r1, hx, A1, l1⟩ := roll_on (R := rowsV G) (k := W) A hn (by omega) (by omega)
  obtain ⟨y, hb, r2, hy, A2, l2⟩ := roll_on (R := rowsV G) (k := H) A1 (by rw [l1]; exact hn) (by omega) (by omega)
  obtain ⟨w, hc, r3, iw, A3, l3⟩ := pick_ok (R := rowsV G) A2 (by rw [l2, l1]; exact hn)
  have r4 := shift_ok iw (hc ++ rowsV G)
  have L : hc.length = h.length := by rw [l3, l2, l1]
  obtain ⟨x', ex, hx'⟩ := mod_ix ((x : Int) + sx w) w0
  obtain ⟨y', ey, hy'⟩ := mod_ix ((y : Int) + sy w) h0
  have hx2 : x < W := by omega
  have hy2 : y < H := by omega
  have s1 : gb1 (gst n W H h.length a b c d e f g) (h ++ rowsV G) = .nx (gst n W H h.length a b (some (.int (x : Nat))) (some (.int (y : Nat))) (some (.int (w : Nat))) f g) (hc ++ rowsV G) := by
    simp only [gb1, gst, sPar3, aCons, aNil, eCall, eVar, eL, aLim, eK, List.getElem?_cons_succ, List.getElem?_cons_zero, r1, r2, List.length_cons, List.length_nil, Nat.reduceAdd, Nat.reduceLeDiff, if_true, r3, List.set_cons_succ, List.set_cons_zero]
  have s2 : gb2 (gst n W H h.length a b (some (.int (x : Nat))) (some (.int (y : Nat))) (some (.int (w : Nat))) f g) (hc ++ rowsV G) = .nx (gst n W H h.length a b (some (.int (x : Nat))) (some (.int (y : Nat))) (some (.int (w : Nat))) (some (.tup [.int (sx w), .int (sy w)])) g) (hc ++ rowsV G) := by
    simp only [gb2, gst, sSet, aCons, aNil, eCall, eVar, List.getElem?_cons_succ, List.getElem?_cons_zero, r4, List.set_cons_succ, List.set_cons_zero]
  have i0 : ∀ (p q : Int) (hh : VH), TL.bIx (.tup [.int p, .int q]) (.int 0) hh = .ok (.int p) hh := fun p q hh => rfl
  have i1 : ∀ (p q : Int) (hh : VH), TL.bIx (.tup [.int p, .int q]) (.int 1) hh = .ok (.int q) hh := fun p q hh => rfl
  have s3 : gb3 (gst n W H h.length a b (some (.int (x : Nat))) (some (.int (y : Nat))) (some (.int (w : Nat))) (some (.tup [.int (sx w), .int (sy w)])) g) (hc ++ rowsV G) = .nx (gst n W H h.length a b (some (.int (x : Nat))) (some (.int (y : Nat))) (some (.int (w : Nat))) (some (.tup [.int (sx w), .int (sy w)])) (some (.tup [.int (x' : Nat), .int (y' : Nat)]))) (hc ++ rowsV G) := by
    have wz : ¬ (W : Int) = 0 := by omega
    have hz : ¬ (H : Int) = 0 := by omega
    simp [gb3, gst, sSet, eTup, eOp, eK, aCons, aNil, eCall, eVar, i0, i1, TL.bAdd, bI0, bI, TL.bMod, fInt_int, ex, ey, wz, hz, w0, h0]
  have fin : gbody (gst n W H h.length a b c d e f g) (h ++ rowsV G) = sIf gc (sSeq gs1 gs2) sNil (gst n W H h.length a b (some (.int (x : Nat))) (some (.int (y : Nat))) (some (.int (w : Nat))) (some (.tup [.int (sx w), .int (sy w)])) (some (.tup [.int (x' : Nat), .int (y' : Nat)]))) (hc ++ rowsV G) :=
    (seq_nx s1).trans ((seq_nx s2).trans (seq_nx s3))
  have j1 : ∀ hh, TL.bIx (refsT h.length H) (.int (y : Nat)) hh = .ok (.ref (hc.length + y)) hh := fun hh => by rw [L]; exact refs_at h.length hy2 hh
  have j2 : ∀ hh, TL.bIx (refsT h.length H) (.int (y' : Nat)) hh = .ok (.ref (hc.length + y')) hh := fun hh => by rw [L]; exact refs_at h.length hy' hh
  have c1 := cell_at D (h := hc) hx2 hy2
  have c2 := cell_at D (h := hc) hx' hy'
  have ec : gc (gst n W H h.length a b (some (.int (x : Nat))) (some (.int (y : Nat))) (some (.int (w : Nat))) (some (.tup [.int (sx w), .int (sy w)])) (some (.tup [.int (x' : Nat), .int (y' : Nat)]))) (hc ++ rowsV G) = .ok (!decide ((x' : Int) = x ∧ (y' : Int) = y) && (decide (cell G W H x y = 0) && decide (cell G W H x' y' = 0))) (hc ++ rowsV G) := by
    cases q1 : decide ((x' : Int) = x ∧ (y' : Int) = y) <;> cases q2 : decide (cell G W H x y = 0) <;> cases q3 : decide (cell G W H x' y' = 0) <;>
      simp only [gc, gst, TL.bAnd, bTest, eOp, eTup, eK, aCons, aNil, eVar, List.getElem?_cons_succ, List.getElem?_cons_zero, bNe_pair, q1, q2, q3, i0, i1, j1, j2, c1, c2, bEq_zero, List.length_cons, List.length_nil, Nat.reduceAdd, Nat.reduceLeDiff, if_true, Bool.not_true, Bool.not_false, Bool.and_true, Bool.and_false, Bool.false_and, Bool.true_and]
  rw [fin]
  by_cases q : (!decide ((x' : Int) = x ∧ (y' : Int) = y) && (decide (cell G W H x y = 0) && decide (cell G W H x' y' = 0))) = true
  · rw [q] at ec
    rw [if_t ec]
    simp only [Bool.and_eq_true, Bool.not_eq_true', decide_eq_false_iff_not, decide_eq_true_eq] at q
    have D1 := put_dim (x := x) (d := w) D hy2
    have t1 := set_at D (h := hc) (x := x) (y := y) (d := w) hx2 hy2
    have t2 := set_at D1 (h := hc) (x := x') (y := y') (d := 10 - w) hx' hy'
    have e10 : (10 : Int) - (w : Int) = ((10 - w : Nat) : Int) := by unfold IsW at iw; omega
    refine ⟨hc, put (put G x y w) x' y' (10 - w), some (.int (x : Nat)), some (.int (y : Nat)), some (.int (w : Nat)), some (.tup [.int (sx w), .int (sy w)]), some (.tup [.int (x' : Nat), .int (y' : Nat)]), ?_, A3, L, put_dim D1 hy', put_mut D M iw hx2 hy2 ex ey (fun z => q.1 ⟨by omega, by omega⟩) q.2.1 q.2.2⟩
    have u1 : gs1 (gst n W H h.length a b (some (.int (x : Nat))) (some (.int (y : Nat))) (some (.int (w : Nat))) (some (.tup [.int (sx w), .int (sy w)])) (some (.tup [.int (x' : Nat), .int (y' : Nat)]))) (hc ++ rowsV G) = .nx (gst n W H h.length a b (some (.int (x : Nat))) (some (.int (y : Nat))) (some (.int (w : Nat))) (some (.tup [.int (sx w), .int (sy w)])) (some (.tup [.int (x' : Nat), .int (y' : Nat)]))) (hc ++ rowsV (put G x y w)) := by
      simp only [gs1, gst, sAsg, mgSub, eOp, eVar, List.getElem?_cons_succ, List.getElem?_cons_zero, j1, t1]
    have u2 : gs2 (gst n W H h.length a b (some (.int (x : Nat))) (some (.int (y : Nat))) (some (.int (w : Nat))) (some (.tup [.int (sx w), .int (sy w)])) (some (.tup [.int (x' : Nat), .int (y' : Nat)]))) (hc ++ rowsV (put G x y w)) = .nx (gst n W H h.length a b (some (.int (x : Nat))) (some (.int (y : Nat))) (some (.int (w : Nat))) (some (.tup [.int (sx w), .int (sy w)])) (some (.tup [.int (x' : Nat), .int (y' : Nat)]))) (hc ++ rowsV (put (put G x y w) x' y' (10 - w))) := by
      simp only [gs2, gst, sAsg, mgSub, eOp, eVar, eK, List.getElem?_cons_succ, List.getElem?_cons_zero, TL.bSub, bI0, i0, i1, j2, e10, t2]
    exact (seq_nx u1).trans u2
  · rw [Bool.not_eq_true] at q
    rw [q] at ec
    rw [if_f ec]
    exact ⟨hc, G, some (.int (x : Nat)), some (.int (y : Nat)), some (.int (w : Nat)), some (.tup [.int (sx w), .int (sy w)]), some (.tup [.int (x' : Nat), .int (y' : Nat)]), rfl, A3, L, D, M⟩
end
end K33

set_option Elab.async false
set_option linter.all false
set_option maxRecDepth 100000
set_option maxHeartbeats 400000
namespace K33
open PySem L2 TL KG
section
variable {G G' : List (List Nat)} {W H W' H' : Nat}
theorem rowsT_frz (G : List (List Nat)) (h : VH) (n : Nat) : frz n h 2 (.lst []) = some (.lst []) := by
  unfold frz
  rfl
theorem ints_low (r : List Nat) (n : Nat) : lowRs n (r.map fun d => T.int (d : Nat)) = true := by
  induction r with
  | nil => rfl
  | cons a r ih => simp [lowRs, T.lowR, ih]
theorem flat_one {α : Type} (W : Nat) (x : α) : (List.replicate W [x]).flatten = List.replicate W x := by
  induction W with
  | zero => rfl
  | succ k ih => rw [List.replicate_succ, List.flatten_cons, ih, List.replicate_succ]; rfl
theorem mul_small {a b : Int} (h : VH) (hc : cMul a b = true) : TL.bMul (.int a) (.int b) h = .ok (.int (a * b)) h := by
  simp only [TL.bMul, bI0, bI, hc, if_true]
theorem add_int (a b : Int) (h : VH) : TL.bAdd (.int a) (.int b) h = .ok (.int (a + b)) h := rfl
theorem rng_ok {g : MA} {τ : TS_} {h h1 : VH} {K : Nat} (e : g τ h = .ok [.int (K : Nat)] h1) (hK : K ≤ 100000) : iRange1 g τ h = .ok (fun _ => some (rangeT 0 K)) h1 := by
  unfold iRange1
  rw [e]
  simp only
  rw [if_pos ⟨by omega, by omega⟩, Int.toNat_natCast]
theorem grid_ok {n : Nat} {h : VH} (A : AllP h) (hn : n < h.length) : ∃ (W H : Nat) (G : List (List Nat)) (h' : VH), m_law_grid [.ref n, .int 5] h = .ok (gridT G) h' ∧ AllP h' ∧ h'.length = h.length ∧ Dim G W H ∧ Mut G W H ∧ W ≤ 5 ∧ H ≤ 5 := by
  obtain ⟨p, ha, r1, hp, A1, l1⟩ := roll_on (R := []) (k := 5) A hn (by omega) (by omega)
  obtain ⟨q, hb, r2, hq, A2, l2⟩ := roll_on (R := []) (k := 5) A1 (by rw [l1]; exact hn) (by omega) (by omega)
  simp only [List.append_nil] at r1 r2
  obtain ⟨W, hW⟩ : ∃ W, W = 1 + p := ⟨_, rfl⟩
  obtain ⟨H, hH⟩ : ∃ H, H = 1 + q := ⟨_, rfl⟩
  have e1 : (1 : Int) + (p : Nat) = (W : Nat) := by omega
  have e2 : (1 : Int) + (q : Nat) = (H : Nat) := by omega
  have w0 : 0 < W := by omega
  have w5 : W ≤ 5 := by omega
  have h0 : 0 < H := by omega
  have h5 : H ≤ 5 := by omega
  have L : hb.length = h.length := by rw [l2, l1]
  have s1 : ga1 (startT 12 [.ref n, .int 5]) h = .nx [some (.ref n), some (.int 5), some (.int (W : Nat)), some (.int (H : Nat)), none, none, none, none, none, none, none, none] hb := by
    have et : startT 12 [.ref n, .int 5] = [some (.ref n), some (.int 5), none, none, none, none, none, none, none, none, none, none] := rfl
    rw [et]
    simp only [ga1, sAsg, eTup, aCons, aNil, eOp, eK, eCall, eVar, List.getElem?_cons_succ, List.getElem?_cons_zero, r1, r2, TL.bAdd, bI0, bI, e1, e2, mgTup, mgsCons, mgName, mgsNil, List.length_cons, List.length_nil, Nat.reduceAdd, Nat.reduceLeDiff, if_true, List.set_cons_succ, List.set_cons_zero]
  have s2 : ga2 [some (.ref n), some (.int 5), some (.int (W : Nat)), some (.int (H : Nat)), none, none, none, none, none, none, none, none] hb = .nx (gst n W H hb.length none none none none none none none) (hb ++ rowsV (List.replicate H (List.replicate W 0))) := by
    have z := lcL_fresh (rd := fun _ => some (rangeT 0 H)) (g := mgName 5) (e := eH (mMul (eL (aLim (aCons (eK (.int 0)) aNil))) (eVar 2))) (τ := [some (.ref n), some (.int 5), some (.int (W : Nat)), some (.int (H : Nat)), none, none, none, none, none, none, none, none]) (ts := rangeT 0 H) (fun _ => rfl) (xs := (List.replicate W [T.int 0]).flatten) (fun t _ hh => ⟨[some (.ref n), some (.int 5), some (.int (W : Nat)), some (.int (H : Nat)), none, some t, none, none, none, none, none, none], rfl, by
      have c : 1 * ((W : Nat) : Int).toNat ≤ 16777216 ∧ (-1000000000 : Int) ≤ (W : Nat) ∧ ((W : Nat) : Int) ≤ 1000000000 := by
        rw [Int.toNat_natCast]
        omega
      simp only [eH, mMul, eL, aLim, aCons, aNil, eK, eVar, List.getElem?_cons_succ, List.getElem?_cons_zero, List.length_cons, List.length_nil, Nat.reduceAdd, Nat.reduceLeDiff, if_true, TL.listOf]
      rw [if_pos c, Int.toNat_natCast]⟩) H 0 [] hb (by rw [range_len]; omega)
    have em : iRange1 (aCons (eVar 3) aNil) [some (.ref n), some (.int 5), some (.int (W : Nat)), some (.int (H : Nat)), none, none, none, none, none, none, none, none] hb = .ok (fun _ => some (rangeT 0 H)) hb := by
      simp only [iRange1, aCons, aNil, eVar, List.getElem?_cons_succ, List.getElem?_cons_zero]
      rw [if_pos ⟨by omega, by omega⟩, Int.toNat_natCast]
    have ew : wipeT [some (.ref n), some (.int 5), some (.int (W : Nat)), some (.int (H : Nat)), none, none, none, none, none, none, none, none] [5] = [some (.ref n), some (.int 5), some (.int (W : Nat)), some (.int (H : Nat)), none, none, none, none, none, none, none, none] := rfl
    have er : rowsV (List.replicate H (List.replicate W 0)) = List.replicate H (VO.lst (List.replicate W [T.int 0]).flatten) := by
      unfold rowsV
      rw [List.map_replicate, List.map_replicate]
      congr 1
      have : (List.replicate W [T.int 0]).flatten = List.replicate W (T.int 0) := by
        exact flat_one W (T.int 0)
      rw [this]
      rfl
    rw [range_len] at z
    unfold ga2
    refine (set_ok (t := refsT hb.length H) (h1 := hb ++ rowsV (List.replicate H (List.replicate W 0))) ?_).trans rfl
    refine eL_ok ?_
    unfold mLc
    rw [em]
    simp only [range_len]
    rw [if_pos (by omega), ew, z, er]
    rfl
  have wh : W * H ≤ 25 := Nat.mul_le_mul w5 h5
  have cm : cMul (W : Int) (H : Int) = true := by
    unfold cMul
    rw [Bool.or_eq_true, Bool.and_eq_true]
    exact .inl ⟨decide_eq_true (by omega), decide_eq_true (by omega)⟩
  have D0 := zero_dim (W := W) (H := H) w0 (by omega) h0 (by omega)
  have M0 := zero_mut (W := W) (H := H) w0 h0
  obtain ⟨K, hK⟩ : ∃ K, K = 2 + W * H := ⟨_, rfl⟩
  have ez : (2 : Int) + (W : Int) * (H : Int) = (K : Int) := by rw [hK, Int.natCast_add, Int.natCast_mul]; rfl
  have kl : K ≤ 27 := by omega
  clear hK
  have e3 : aCons (eOp TL.bAdd (eK (.int 2)) (eOp TL.bMul (eVar 2) (eVar 3))) aNil (gst n W H hb.length none none none none none none none) (hb ++ rowsV (List.replicate H (List.replicate W 0))) = .ok [.int (K : Nat)] (hb ++ rowsV (List.replicate H (List.replicate W 0))) := by
    refine cons_ok (t := .int (K : Nat)) (h1 := hb ++ rowsV (List.replicate H (List.replicate W 0))) ?_ rfl
    refine (op_ok (t := .int 2) (u := .int ((W : Int) * (H : Int))) rfl ((op_ok rfl rfl).trans (mul_small _ cm))).trans ?_
    rw [add_int, ez]
  obtain ⟨τ', h', q1, q2⟩ := sFor_inv (mi := iRange1 (aCons (eOp TL.bAdd (eK (.int 2)) (eOp TL.bMul (eVar 2) (eVar 3))) aNil)) (g := mgName 6) (body := gbody) (τ := gst n W H hb.length none none none none none none none) (h := hb ++ rowsV (List.replicate H (List.replicate W 0))) (h1 := hb ++ rowsV (List.replicate H (List.replicate W 0)))
    (rd := fun _ => some (rangeT 0 K)) (ts := rangeT 0 K) (fun _ τ h' => ∃ (a b c d e f g : Option T) (h1 : VH) (G : List (List Nat)), τ = gst n W H hb.length a b c d e f g ∧ h' = h1 ++ rowsV G ∧ AllP h1 ∧ h1.length = hb.length ∧ Dim G W H ∧ Mut G W H)
    (by
      exact rng_ok e3 (by omega)) ⟨none, none, none, none, none, none, none, hb, _, rfl, rfl, A2, rfl, D0, M0⟩ (fun _ _ _ _ => rfl) (fun i hi τ h' I => by
      obtain ⟨a, b, c, d, e, f, g, k1, G, rfl, rfl, B, lk, D, M⟩ := I
      obtain ⟨k2, G2, c', d', e', f', g', z, B2, lk2, D2, M2⟩ := gb_ok D M B (by rw [lk, L]; exact hn) a (some (rangeT 0 K)[i]) c d e f g
      rw [lk] at z
      exact ⟨gst n W H hb.length a (some (rangeT 0 K)[i]) c d e f g, k1 ++ rowsV G, _, _, rfl, .inl z, a, _, c', d', e', f', g', k2, G2, rfl, rfl, B2, by rw [lk2, lk], D2, M2⟩)
  obtain ⟨a, b, c, d, e, f, g, k1, G, rfl, rfl, B, lk, D, M⟩ := q2
  refine ⟨W, H, G, k1, ?_, B, by rw [lk, L], D, M, w5, h5⟩
  have fin : defM 12 2 s_law_grid [.ref n, .int 5] h = .ok (refsT hb.length H) (k1 ++ rowsV G) := by
    rw [grid_eq]
    exact defM_rt rfl ((seq_nx s1).trans ((seq_nx s2).trans ((seq_nx q1).trans (ret_ok rfl))))
  have lh : k1.length = h.length := by rw [lk, L]
  have ht : (k1 ++ rowsV G).take h.length = k1 := by rw [← lh]; simp
  have fz : frz h.length (k1 ++ rowsV G) 4 (refsT hb.length H) = some (gridT G) := by
    rw [L]
    have nl : (refsT h.length H).lowR h.length = false := by
      obtain ⟨m, rfl⟩ : ∃ m, H = m + 1 := ⟨H - 1, by omega⟩
      unfold refsT
      rw [List.range_succ_eq_map, List.map_cons]
      simp [T.lowR, lowRs]
    have one : ∀ j, j < H → frz h.length (k1 ++ rowsV G) 3 (.ref (h.length + j)) = some (.lst ((G.getD j []).map fun d => T.int (d : Nat))) := by
      intro j hj
      have g0 := rowsV_at D (h := k1) hj
      rw [lh] at g0
      have lw : (T.ref (h.length + j)).lowR h.length = false := by simp [T.lowR]
      have li : ∀ t ∈ (G.getD j []).map (fun d => T.int (d : Nat)), frz h.length (k1 ++ rowsV G) 2 t = some (id t) := by
        intro t ht
        obtain ⟨d, _, rfl⟩ := List.mem_map.mp ht
        rfl
      unfold frz
      rw [lw]
      simp only [Bool.false_eq_true, if_false, g0]
      rw [mapM_some li]
      simp
    unfold refsT at nl ⊢
    unfold frz
    rw [nl]
    simp only [Bool.false_eq_true, if_false]
    have all : ∀ t ∈ (List.range H).map (fun j => T.ref (h.length + j)), frz h.length (k1 ++ rowsV G) 3 t = some ((fun u => match u with | .ref m => T.lst ((G.getD (m - h.length) []).map fun d => T.int (d : Nat)) | u => u) t) := by
      intro t ht
      obtain ⟨j, hj, rfl⟩ := List.mem_map.mp ht
      rw [one j (List.mem_range.mp hj)]
      simp
    rw [mapM_some all, List.map_map]
    unfold gridT
    refine congrArg (fun l => some (T.lst l)) ?_
    apply List.ext_getElem (by simp [D.len])
    intro i h1 h2
    have hi : i < G.length := by simpa using h2
    simp [List.getD_eq_getElem?_getD, List.getElem?_eq_getElem hi]
  unfold m_law_grid cutM
  rw [fin]
  simp only [ht, B.low, if_true, fz]
end
end K33

set_option Elab.async false
set_option linter.all false
set_option maxRecDepth 100000
set_option maxHeartbeats 400000
namespace K33
open PySem L2 TL KG
section
variable {G G' : List (List Nat)} {W H W' H' : Nat}
theorem mut_of (D : Dim G W H) (f : ∀ i : Nat, i < H → ∀ j : Nat, j < W → cell G W H (j : Int) (i : Int) < 10 ∧ cell G W H (j : Int) (i : Int) ≠ 5 ∧ (cell G W H (j : Int) (i : Int) ≠ 0 → cell G W H ((j : Int) + sx (cell G W H (j : Int) (i : Int))) ((i : Int) + sy (cell G W H (j : Int) (i : Int))) + cell G W H (j : Int) (i : Int) = 10)) : Mut G W H := by
  have key : ∀ x y : Int, ∃ i j : Nat, i < H ∧ j < W ∧ (x % (W : Int) = (j : Nat)) ∧ (y % (H : Int) = (i : Nat)) := fun x y => by
    obtain ⟨j, e1, hj⟩ := mod_ix x D.w0
    obtain ⟨i, e2, hi⟩ := mod_ix y D.h0
    exact ⟨i, j, hi, hj, e1, e2⟩
  have cg : ∀ (x y : Int) (i j : Nat), i < H → j < W → x % (W : Int) = (j : Nat) → y % (H : Int) = (i : Nat) → cell G W H x y = cell G W H (j : Int) (i : Int) := fun x y i j hi hj e1 e2 => by
    apply cell_congr
    · rw [e1, Int.emod_eq_of_lt (by omega) (by omega)]
    · rw [e2, Int.emod_eq_of_lt (by omega) (by omega)]
  refine ⟨fun x y => ?_, fun x y => ?_, fun x y nz => ?_⟩ <;> obtain ⟨i, j, hi, hj, e1, e2⟩ := key x y <;> obtain ⟨q1, q2, q3⟩ := f i hi j hj
  · rw [cg x y i j hi hj e1 e2]; exact q1
  · rw [cg x y i j hi hj e1 e2]; exact q2
  · have e := cg x y i j hi hj e1 e2
    rw [e] at nz ⊢
    have := q3 nz
    rw [← this]
    congr 1
    apply cell_congr
    · rw [← e1, Int.emod_add_emod]
    · rw [← e2, Int.emod_add_emod]
def g1 : List (List Nat) := [[2, 2], [8, 8]]
def g2 : List (List Nat) := [[0, 0], [6, 4]]
theorem g1_dim : Dim g1 2 2 := ⟨rfl, by decide, by decide, by decide, by decide, by decide⟩
theorem g2_dim : Dim g2 2 2 := ⟨rfl, by decide, by decide, by decide, by decide, by decide⟩
theorem g1_mut : Mut g1 2 2 := mut_of g1_dim (by decide)
theorem g2_mut : Mut g2 2 2 := mut_of g2_dim (by decide)
theorem g1_spell : spell g1 = "88/22" := by decide +kernel
theorem g2_spell : spell g2 = "64/00" := by decide +kernel
theorem g1_cell (x y : Int) : cell g1 2 2 x y = if y % 2 = 0 then 2 else 8 := by
  have a : cell g1 2 2 x y = cell g1 2 2 (x % 2) (y % 2) := cell_congr (by omega) (by omega)
  rw [a]
  rcases (show x % 2 = 0 ∨ x % 2 = 1 by omega) with p | p <;> rcases (show y % 2 = 0 ∨ y % 2 = 1 by omega) with q | q <;> rw [p, q] <;> decide
theorem g2_cell (x y : Int) (h : y % 2 = 0) : cell g2 2 2 x y = 0 := by
  have a : cell g2 2 2 x y = cell g2 2 2 (x % 2) (y % 2) := cell_congr (by omega) (by omega)
  rw [a, h]
  rcases (show x % 2 = 0 ∨ x % 2 = 1 by omega) with p | p <;> rw [p] <;> decide
theorem g1_n (h : VH) : m_longest_along [pat g1, .str "n"] h = .ok (.int 2) h := by
  obtain ⟨r, e, i⟩ := along_ok g1_dim way_n (pat_at g1 h)
  have s : ∀ x y : Int, St g1 2 2 8 x y ↔ y % 2 = 1 := fun x y => by
    unfold St
    rw [g1_cell]
    split <;> omega
  have t : IsL (St g1 2 2 8) (sx 8) (sy 8) (some 2) := by
    refine ⟨fun x y => ?_, ⟨0, 1, by decide, (s _ _).mpr (by decide), (s _ _).mpr (by decide), fun j a b => ?_⟩, fun x y m g => ?_⟩
    · by_cases q : y % 2 = 1
      · exact ⟨0, (s _ _).mpr (by show (y + 0 * 1) % 2 = 1; omega)⟩
      · exact ⟨1, (s _ _).mpr (by show (y + 1 * 1) % 2 = 1; omega)⟩
    · have : j = 1 := by omega
      subst this
      rw [s]
      decide
    · obtain ⟨a, b, c, d⟩ := g
      rw [s] at b
      refine Decidable.byContradiction fun z => d 2 (by omega) (by omega) ?_
      rw [s]
      show (y + ((2 : Nat) : Int) * 1) % 2 = 1
      omega
  have := i.uniq t
  rw [this] at e
  exact e
theorem g1_e (h : VH) : m_longest_along [pat g1, .str "e"] h = .ok .non h := by
  obtain ⟨r, e, i⟩ := along_ok g1_dim way_e (pat_at g1 h)
  have t : IsL (St g1 2 2 6) (sx 6) (sy 6) none := ⟨0, 0, fun k z => by
    unfold St at z
    rw [g1_cell] at z
    split at z <;> omega⟩
  have := i.uniq t
  rw [this] at e
  exact e
theorem g2_e (h : VH) : m_longest_along [pat g2, .str "e"] h = .ok .non h := by
  obtain ⟨r, e, i⟩ := along_ok g2_dim way_e (pat_at g2 h)
  have t : IsL (St g2 2 2 6) (sx 6) (sy 6) none := ⟨0, 0, fun k z => by
    unfold St at z
    rw [g2_cell _ _ (by show (0 + k * 0) % 2 = 0; rw [Int.mul_zero]; rfl)] at z
    omega⟩
  have := i.uniq t
  rw [this] at e
  exact e
def optD : Option Nat → PyData
  | none => .none
  | some M => .int (M : Nat)
theorem optD_refl (o : Option Nat) : PyData.eqv (optD o) (optD o) = true := by cases o <;> simp [optD, PyData.eqv]
theorem dat_opt (h : VH) (k : Nat) (o : Option Nat) : T.dat h k (optT o) = some (optD o) := by cases o <;> cases k <;> rfl
theorem ne_opts (os : List (Option Nat)) (h : VH) : bNe (.lst (os.map optT)) (.lst (os.map optT)) h = .ok (.bl false) h := by
  have e : T.dat h 10 (.lst (os.map optT)) = some (.list (os.map optD)) := by
    rw [dat_lst, List.mapM_map]
    have := mapM_some (f := fun o => T.dat h 9 (optT o)) (g := optD) (l := os) fun o _ => dat_opt h 9 o
    have e2 : List.mapM ((T.dat h 9) ∘ optT) os = some (os.map optD) := this
    first | rw [this] | rw [e2]
    rfl
  have r : ∀ ds : List (Option Nat), PyData.eqvAll (ds.map optD) (ds.map optD) = true := by
    intro ds
    induction ds with
    | nil => rfl
    | cons a ds ih => simp [PyData.eqvAll, optD_refl, ih]
  unfold bNe bEqG
  rw [e]
  simp only [PyData.eqv, r, Bool.not_true]
theorem held_e (e n a b : Option Nat) : held n e b a = held e n a b := by
  cases e <;> cases n <;> cases a <;> cases b <;> simp [held]
  omega
theorem held_m (e n a b : Option Nat) : held e n b a = held e n a b := by
  cases e <;> cases n <;> cases a <;> cases b <;> simp [held]
  omega
end
end K33

set_option Elab.async false
set_option linter.all false
set_option maxRecDepth 100000
set_option maxHeartbeats 400000
namespace K33
open PySem L2 TL KG
section
variable {G G' : List (List Nat)} {W H W' H' : Nat}
def cb1 : MS := (sSet 3 (eCall m_law_grid (aCons (eVar 0) (aCons (eK (.int 5)) aNil))))
def cb2 : MS := (sSet 4 (eCall m_law_told (aCons (eVar 3) aNil)))
def cb3 : MS := (sPar 5 6 (aCons (eCall fLen (aCons (eOp bIx (eVar 3) (eK (.int 0))) aNil)) (aCons (eCall fLen (aCons (eVar 3) aNil)) aNil)))
def cb4 : MS := (sSet 7 (eCall m_law_begun (aCons (eVar 3) (aCons (eCall m_law_roll (aCons (eVar 0) (aCons (eVar 5) aNil))) (aCons (eCall m_law_roll (aCons (eVar 0) (aCons (eVar 6) aNil))) aNil)))))
def cb5 : MB := (bTest (eOp bNe (eCall m_law_told (aCons (eVar 7) aNil)) (eVar 4)))
def cb6a : MB := (bTest (eOp bNe (eCall m_law_told (aCons (eL (mLc (iSeqC (eVar 3)) [8] (mgName 8) bYes (eOp bAdd (eVar 8) (eVar 8)))) aNil)) (eVar 4)))
def cb6b : MB := (bTest (eOp bNe (eCall m_law_told (aCons (eOp bAdd (eVar 3) (eVar 3)) aNil)) (eVar 4)))
def cb7 : MB := (bTest (eOp bNe (eCall m_law_told (aCons (eCall m_law_turned (aCons (eVar 3) aNil)) aNil)) (eL (aLim (aCons (eOp bIx (eVar 4) (eK (.int 1))) (aCons (eOp bIx (eVar 4) (eK (.int 0))) (aCons (eOp bIx (eVar 4) (eK (.int 3))) (aCons (eOp bIx (eVar 4) (eK (.int 2))) (aCons (eOp bIx (eVar 4) (eK (.int 4))) aNil)))))))))
def cb8 : MB := (bTest (eOp bNe (eCall m_law_told (aCons (eCall m_law_mirrored (aCons (eVar 3) aNil)) aNil)) (eL (aLim (aCons (eOp bIx (eVar 4) (eK (.int 0))) (aCons (eOp bIx (eVar 4) (eK (.int 1))) (aCons (eOp bIx (eVar 4) (eK (.int 3))) (aCons (eOp bIx (eVar 4) (eK (.int 2))) (aCons (eOp bIx (eVar 4) (eK (.int 4))) aNil)))))))))
def no : MS := sRet (eK (.bl false))
def cbody : MS := sSeq cb1 (sSeq cb2 (sSeq cb3 (sSeq cb4 (sSeq (sIf cb5 no sNil) (sSeq (sIf (bOr cb6a cb6b) no sNil) (sSeq (sIf cb7 no sNil) (sIf cb8 no sNil)))))))
def ca1 : MS := (sSet 1 (eCall (cutM (makeM 2 m_Pattern___init__)) (aCons (eK (.str "88/22")) aNil)))
def ca2 : MB := (bTest (eOp bNe (eL (aLim (aCons (eCall m_longest_free (aCons (eVar 1) (aCons (eK (.str "n")) aNil))) (aCons (eCall m_longest_free (aCons (eVar 1) (aCons (eK (.str "e")) aNil))) (aCons (eCall m_longest_free (aCons (eCall (cutM (makeM 2 m_Pattern___init__)) (aCons (eK (.str "64/00")) aNil)) (aCons (eK (.str "e")) aNil))) aNil))))) (eL (aLim (aCons (eK (.int 2)) (aCons (eK .non) (aCons (eK .non) aNil)))))))
theorem case_eq : s_law_case_right = sSeq ca1 (sSeq (sIf ca2 no sNil) (sSeq (sFor (iRange1 (aCons (eK (.int 5)) aNil)) (mgName 2) cbody) (sRet (eK (.bl true))))) := rfl
def cst (n : Nat) (c d e f g i j : Option T) : TS_ := [some (.ref n), some (pat g1), c, d, e, f, g, i, j]
theorem told_tell (D : Dim G W H) (M : Mut G W H) {h : VH} (A : AllP h) : ∃ e n a b, m_law_told [gridT G] h = .ok (toldT e n a b) h ∧ Tell G W H e n a b := told_ok D M (A.low _)
theorem ne_told (e n a b : Option Nat) (h : VH) : bNe (toldT e n a b) (toldT e n a b) h = .ok (.bl false) h := ne_opts [e, n, a, b, held e n a b] h
theorem told_ix (e n a b : Option Nat) (h : VH) : TL.bIx (toldT e n a b) (.int 0) h = .ok (optT e) h ∧ TL.bIx (toldT e n a b) (.int 1) h = .ok (optT n) h ∧ TL.bIx (toldT e n a b) (.int 2) h = .ok (optT a) h ∧ TL.bIx (toldT e n a b) (.int 3) h = .ok (optT b) h ∧ TL.bIx (toldT e n a b) (.int 4) h = .ok (optT (held e n a b)) h := ⟨rfl, rfl, rfl, rfl, rfl⟩
theorem cb_ok {n : Nat} {h : VH} (A : AllP h) (hn : n < h.length) (c d e f g i j : Option T) : ∃ (h' : VH) (d' e' f' g' i' : Option T), cbody (cst n c d e f g i j) h = .nx (cst n c d' e' f' g' i' j) h' ∧ AllP h' ∧ h'.length = h.length := by
  obtain ⟨W, H, G, k1, r1, A1, l1, D, M, w5, h5⟩ := grid_ok A hn
  obtain ⟨te, tn, ta, tb, r2, T2⟩ := told_tell D M A1
  have w0 := D.w0
  have h0 := D.h0
  obtain ⟨r0, er0, el0⟩ := first_row D
  obtain ⟨x, k2', r3, hx, A2, l2⟩ := roll_on (R := []) (k := W) A1 (by rw [l1]; exact hn) (by omega) (by omega)
  obtain ⟨y, k3, r4, hy, A3, l3⟩ := roll_on (R := []) (k := H) A2 (by rw [l2, l1]; exact hn) (by omega) (by omega)
  simp only [List.append_nil] at r3 r4
  have r5 := begun_ok D (x : Int) (y : Int) k3
  have Db : Dim (begun G W H x y) W H := ofFn_dim D.h0 D.h1 D.w0 D.w1
  have Mb : Mut (begun G W H x y) W H := begun_mut D M _ _
  obtain ⟨be, bn, ba, bb, r6, T6⟩ := told_tell Db Mb A3
  obtain ⟨q1, q2, q3, q4⟩ := tell_begun D T2 T6
  rw [q1, q2, q3, q4] at r6
  clear q1 q2 q3 q4
  have Dw : Dim (G.map fun r => r ++ r) (2 * W) H := (rows_add D).mpr ⟨trivial, by omega⟩
  have Mw : Mut (G.map fun r => r ++ r) (2 * W) H := M.same (wide_cell D)
  obtain ⟨we, wn, wa, wb, r7, T7⟩ := told_tell Dw Mw A3
  obtain ⟨q1, q2, q3, q4⟩ := tell_same (wide_cell D) T2 T7
  rw [q1, q2, q3, q4] at r7
  clear q1 q2 q3 q4
  have Dh : Dim (G ++ G) W (2 * H) := high_dim D (by omega)
  have Mh : Mut (G ++ G) W (2 * H) := M.same (high_cell D)
  obtain ⟨he, hn', ha, hb, r8, T8⟩ := told_tell Dh Mh A3
  obtain ⟨q1, q2, q3, q4⟩ := tell_same (high_cell D) T2 T8
  rw [q1, q2, q3, q4] at r8
  clear q1 q2 q3 q4
  have Dt : Dim (turned G W H) H W := ofFn_dim D.w0 D.w1 D.h0 D.h1
  have Mt : Mut (turned G W H) H W := turned_mut D M
  have r9 := turned_ok D M k3
  obtain ⟨ue, un, ua, ub, r10, T10⟩ := told_tell Dt Mt A3
  obtain ⟨q1, q2, q3, q4⟩ := tell_turned D M T2 T10
  rw [q1, q2, q3, q4] at r10
  clear q1 q2 q3 q4
  have Dm : Dim (mirrored G) W H := ⟨by rw [mirrored, List.length_map]; exact D.len, D.h0, D.h1, fun r hr => by
    obtain ⟨q, hq, rfl⟩ := List.mem_map.mp hr
    rw [List.length_map, List.length_reverse]
    exact D.row q hq, D.w0, D.w1⟩
  have Mm : Mut (mirrored G) W H := mirrored_mut D M
  have r11 := mirrored_ok D M k3
  obtain ⟨ve, vn, va, vb, r12, T12⟩ := told_tell Dm Mm A3
  obtain ⟨q1, q2, q3, q4⟩ := tell_mirrored D M T2 T12
  rw [q1, q2, q3, q4] at r12
  clear q1 q2 q3 q4
  have S1 : cb1 (cst n c d e f g i j) h = .nx (cst n c (some (gridT G)) e f g i j) k1 := set_ok ((call_ok (ts := [.ref n, .int 5]) rfl).trans r1)
  have S2 : cb2 (cst n c (some (gridT G)) e f g i j) k1 = .nx (cst n c (some (gridT G)) (some (toldT te tn ta tb)) f g i j) k1 := set_ok ((call_ok (ts := [gridT G]) rfl).trans r2)
  have F1 : TL.bIx (gridT G) (.int 0) k1 = .ok (.lst (r0.map fun d => .int (d : Nat))) k1 := by
    unfold gridT
    simp only [TL.bIx, TL.listOf, er0]
  have F2 : fLen [.lst (r0.map fun d => T.int (d : Nat))] k1 = .ok (.int (W : Nat)) k1 := by
    simp only [fLen, seqOf, TL.listOf, el0]
  have F3 : fLen [gridT G] k1 = .ok (.int (H : Nat)) k1 := by
    unfold gridT
    simp only [fLen, seqOf, TL.listOf, List.length_map, D.len]
  have S3 : cb3 (cst n c (some (gridT G)) (some (toldT te tn ta tb)) f g i j) k1 = .nx (cst n c (some (gridT G)) (some (toldT te tn ta tb)) (some (.int (W : Nat))) (some (.int (H : Nat))) i j) k1 := by
    have a1 : aCons (eCall fLen (aCons (eOp TL.bIx (eVar 3) (eK (.int 0))) aNil)) (aCons (eCall fLen (aCons (eVar 3) aNil)) aNil) (cst n c (some (gridT G)) (some (toldT te tn ta tb)) f g i j) k1 = .ok [.int (W : Nat), .int (H : Nat)] k1 :=
      cons_ok ((call_ok (cons_ok ((op_ok rfl rfl).trans F1) rfl)).trans F2) (cons_ok ((call_ok (ts := [gridT G]) rfl).trans F3) rfl)
    unfold cb3 sPar
    rw [a1]
    rfl
  have S4 : cb4 (cst n c (some (gridT G)) (some (toldT te tn ta tb)) (some (.int (W : Nat))) (some (.int (H : Nat))) i j) k1 = .nx (cst n c (some (gridT G)) (some (toldT te tn ta tb)) (some (.int (W : Nat))) (some (.int (H : Nat))) (some (gridT (begun G W H x y))) j) k3 :=
    set_ok ((call_ok (cons_ok rfl (cons_ok ((call_ok (ts := [.ref n, .int (W : Nat)]) rfl).trans r3) (cons_ok ((call_ok (ts := [.ref n, .int (H : Nat)]) rfl).trans r4) rfl)))).trans r5)
  obtain ⟨τ, hτ⟩ : ∃ τ, τ = cst n c (some (gridT G)) (some (toldT te tn ta tb)) (some (.int (W : Nat))) (some (.int (H : Nat))) (some (gridT (begun G W H x y))) j := ⟨_, rfl⟩
  rw [← hτ] at S4
  have V3 : eVar 3 τ k3 = .ok (gridT G) k3 := by rw [hτ]; rfl
  have V4 : eVar 4 τ k3 = .ok (toldT te tn ta tb) k3 := by rw [hτ]; rfl
  have V7 : eVar 7 τ k3 = .ok (gridT (begun G W H x y)) k3 := by rw [hτ]; rfl
  have nt := ne_told te tn ta tb k3
  obtain ⟨i0, i1, i2, i3, i4⟩ := told_ix te tn ta tb k3
  have B5 : cb5 τ k3 = .ok false k3 := test_ok ((op_ok ((call_ok (cons_ok V7 rfl)).trans r6) V4).trans nt)
  have B6a : cb6a τ k3 = .ok false k3 := by
    have z := wide_ok D (fun q => cst n c (some (gridT G)) (some (toldT te tn ta tb)) (some (.int (W : Nat))) (some (.int (H : Nat))) (some (gridT (begun G W H x y))) q) (fun q => ⟨rfl, rfl, fun _ _ => rfl, fun _ => rfl⟩) j k3
    have z : mLc (iSeqC (eVar 3)) [8] (mgName 8) bYes (eOp TL.bAdd (eVar 8) (eVar 8)) (cst n c (some (gridT G)) (some (toldT te tn ta tb)) (some (.int (W : Nat))) (some (.int (H : Nat))) (some (gridT (begun G W H x y))) j) k3 = _ := z
    rw [← hτ] at z
    exact test_ok ((op_ok ((call_ok (cons_ok (eL_ok z) rfl)).trans r7) V4).trans nt)
  have B6b : cb6b τ k3 = .ok false k3 := test_ok ((op_ok ((call_ok (cons_ok ((op_ok V3 V3).trans (high_ok D k3)) rfl)).trans r8) V4).trans nt)
  have B6 : TL.bOr cb6a cb6b τ k3 = .ok false k3 := by
    unfold TL.bOr
    rw [B6a]
    exact B6b
  have VK : ∀ (m : Int), eK (.int m) τ k3 = .ok (.int m) k3 := fun m => rfl
  have NA : aNil τ k3 = .ok [] k3 := rfl
  have lim : ∀ {g : MA} {a b c d e : T}, g τ k3 = .ok [a, b, c, d, e] k3 → aLim g τ k3 = .ok [a, b, c, d, e] k3 := fun {g} {a b c d e} z => by
    unfold aLim
    rw [z]
    rfl
  have N7 := ne_opts [tn, te, tb, ta, held tn te tb ta] k3
  rw [held_e te tn ta tb] at N7
  have B7 : cb7 τ k3 = .ok false k3 := by
    have R := eL_ok (lim (cons_ok ((op_ok V4 (VK 1)).trans i1) (cons_ok ((op_ok V4 (VK 0)).trans i0) (cons_ok ((op_ok V4 (VK 3)).trans i3) (cons_ok ((op_ok V4 (VK 2)).trans i2) (cons_ok ((op_ok V4 (VK 4)).trans i4) NA))))))
    refine test_ok ((op_ok ((call_ok (cons_ok ((call_ok (cons_ok V3 rfl)).trans r9) rfl)).trans r10) R).trans ?_)
    unfold toldT
    rw [held_e te tn ta tb]
    exact N7
  have N8 := ne_opts [te, tn, tb, ta, held te tn tb ta] k3
  rw [held_m te tn ta tb] at N8
  have B8 : cb8 τ k3 = .ok false k3 := by
    have R := eL_ok (lim (cons_ok ((op_ok V4 (VK 0)).trans i0) (cons_ok ((op_ok V4 (VK 1)).trans i1) (cons_ok ((op_ok V4 (VK 3)).trans i3) (cons_ok ((op_ok V4 (VK 2)).trans i2) (cons_ok ((op_ok V4 (VK 4)).trans i4) NA))))))
    refine test_ok ((op_ok ((call_ok (cons_ok ((call_ok (cons_ok V3 rfl)).trans r11) rfl)).trans r12) R).trans ?_)
    unfold toldT
    rw [held_m te tn ta tb]
    exact N8
  refine ⟨k3, some (gridT G), some (toldT te tn ta tb), some (.int (W : Nat)), some (.int (H : Nat)), some (gridT (begun G W H x y)), ?_, A3, by rw [l3, l2, l1]⟩
  rw [← hτ]
  refine (seq_nx S1).trans ((seq_nx S2).trans ((seq_nx S3).trans ((seq_nx S4).trans ?_)))
  exact (seq_nx ((if_f B5).trans rfl)).trans ((seq_nx ((if_f B6).trans rfl)).trans ((seq_nx ((if_f B7).trans rfl)).trans ((if_f B8).trans rfl)))
end
end K33

set_option Elab.async false
set_option linter.all false
set_option maxRecDepth 100000
set_option maxHeartbeats 400000
namespace K33
open PySem L2 TL KG
section
theorem made1 {h : VH} (A : AllP h) : cutM (makeM 2 m_Pattern___init__) [.str "88/22"] h = .ok (pat g1) h := by rw [← g1_spell]; exact make_ok g1_dim g1_mut (A.low _)
theorem made2 {h : VH} (A : AllP h) : cutM (makeM 2 m_Pattern___init__) [.str "64/00"] h = .ok (pat g2) h := by rw [← g2_spell]; exact make_ok g2_dim g2_mut (A.low _)
theorem case_ok {n : Nat} {h : VH} (A : AllP h) (hn : n < h.length) : ∃ h', m_law_case_right [.ref n] h = .ok (.bl true) h' ∧ AllP h' ∧ h'.length = h.length := by
  have et : startT 9 [.ref n] = [some (.ref n), none, none, none, none, none, none, none, none] := rfl
  have S1 : ca1 (startT 9 [.ref n]) h = .nx (cst n none none none none none none none) h := by
    rw [et]
    exact set_ok ((call_ok (ts := [.str "88/22"]) rfl).trans (made1 A))
  have f1 := free_ok (G := g1) (w := "n") (h := h) rfl (g1_n h)
  have f2 := free_ok (G := g1) (w := "e") (h := h) rfl (g1_e h)
  have f3 := free_ok (G := g2) (w := "e") (h := h) rfl (g2_e h)
  obtain ⟨τ, hτ⟩ : ∃ τ, τ = cst n none none none none none none none := ⟨_, rfl⟩
  have V1 : eVar 1 τ h = .ok (pat g1) h := by rw [hτ]; rfl
  have NA : aNil τ h = .ok [] h := rfl
  have VS : ∀ s : Str, eK (.str s) τ h = .ok (.str s) h := fun s => rfl
  have B : ca2 τ h = .ok false h := by
    have R1 : eL (aLim (aCons (eCall m_longest_free (aCons (eVar 1) (aCons (eK (.str "n")) aNil))) (aCons (eCall m_longest_free (aCons (eVar 1) (aCons (eK (.str "e")) aNil))) (aCons (eCall m_longest_free (aCons (eCall (cutM (makeM 2 m_Pattern___init__)) (aCons (eK (.str "64/00")) aNil)) (aCons (eK (.str "e")) aNil))) aNil)))) τ h = .ok (.lst [.int 2, .non, .non]) h := by
      refine eL_ok ?_
      have z := cons_ok ((call_ok (cons_ok V1 (cons_ok (VS "n") NA))).trans f1) (cons_ok ((call_ok (cons_ok V1 (cons_ok (VS "e") NA))).trans f2) (cons_ok ((call_ok (cons_ok ((call_ok (cons_ok (VS "64/00") NA)).trans (made2 A)) (cons_ok (VS "e") NA))).trans f3) NA))
      unfold aLim
      rw [z]
      rfl
    have R2 : eL (aLim (aCons (eK (.int 2)) (aCons (eK .non) (aCons (eK .non) aNil)))) τ h = .ok (.lst [.int 2, .non, .non]) h := rfl
    exact test_ok ((op_ok R1 R2).trans (ne_opts [some 2, none, none] h))
  subst hτ
  obtain ⟨τ', h', q1, q2⟩ := sFor_inv (mi := iRange1 (aCons (eK (.int 5)) aNil)) (g := mgName 2) (body := cbody) (τ := cst n none none none none none none none) (h := h) (h1 := h) (rd := fun _ => some (rangeT 0 5)) (ts := rangeT 0 5)
    (fun _ τ h' => ∃ (c d e f g i j : Option T), τ = cst n c d e f g i j ∧ AllP h' ∧ h'.length = h.length) (rng_ok (K := 5) rfl (by omega)) ⟨none, none, none, none, none, none, none, rfl, A, rfl⟩ (fun _ _ _ _ => rfl) (fun k hk τ h' I => by
      obtain ⟨c, d, e, f, g, i, j, rfl, A1, l1⟩ := I
      obtain ⟨h2, d', e', f', g', i', z, A2, l2⟩ := cb_ok A1 (by rw [l1]; exact hn) (some (rangeT 0 5)[k]) d e f g i j
      exact ⟨cst n (some (rangeT 0 5)[k]) d e f g i j, h', _, _, rfl, .inl z, _, d', e', f', g', i', j, rfl, A2, by rw [l2, l1]⟩)
  obtain ⟨c, d, e, f, g, i, j, rfl, A1, l1⟩ := q2
  refine ⟨h', ?_, A1, l1⟩
  show defM 9 1 s_law_case_right [.ref n] h = _
  rw [case_eq]
  exact defM_rt rfl ((seq_nx S1).trans ((seq_nx ((if_f B).trans rfl)).trans ((seq_nx q1).trans (ret_ok rfl))))
theorem purse_ok {h : VH} (A : AllP h) (c : Int) : ∃ h', m_law_purse [.int c] h = .ok (.ref h.length) h' ∧ AllP h' ∧ h'.length = h.length + 1 := by
  have hm : cMul c 48271 = true := by
    unfold cMul
    rw [Bool.or_eq_true, Bool.and_eq_true, Bool.and_eq_true]
    exact .inr ⟨by decide, by decide⟩
  have key : ∃ a, m_law_purse [.int c] h = .ok (.ref h.length) (h ++ [pur a ((c * 48271 + 11) % 2147483543) 0]) := by
    by_cases q : c < 0
    · exact ⟨-c, by simp [m_law_purse, s_law_purse, defM, startT, sSeq, sSet, sRet, sIf, sExpr, sNil, sAsg, sPar, sPar3, eVar, eK, eOp, eCall, mCall, eL, eH, aLim, aNil, aCons, aStar, eTup, eIf, bTest, TL.bAnd, TL.bOr, TL.bNot, bYes, eAnd, eOr, eNot, eNeg, eChain, eFld, getI, mgName, mgTup, mgsCons, mgsNil, mgSub, bSub, bMod, bFdv, bPow, bI, bI0, bAdd, bMul, bLt, bLe, bGt, bGe, bOrdG, bIs, bIsn, bIsG, TL.isNon, bIx, bSetL, fLen, fList, fTuple, fMax2, fMin2, fII, fAbs, fInt, fDivmod, TL.listOf, seqOf, tupOf, atI, ixN, List.getElem?_cons_zero, List.getElem?_cons_succ, List.set_cons_zero, List.set_cons_succ, List.map, List.length_cons, List.length_nil, List.replicate, List.append_nil, List.cons_append, List.nil_append, Option.bind_some, Option.bind, hm, q, pur]⟩
    · by_cases p : 1000000000000000000 ≤ c
      · exact ⟨c, by simp [m_law_purse, s_law_purse, defM, startT, sSeq, sSet, sRet, sIf, sExpr, sNil, sAsg, sPar, sPar3, eVar, eK, eOp, eCall, mCall, eL, eH, aLim, aNil, aCons, aStar, eTup, eIf, bTest, TL.bAnd, TL.bOr, TL.bNot, bYes, eAnd, eOr, eNot, eNeg, eChain, eFld, getI, mgName, mgTup, mgsCons, mgsNil, mgSub, bSub, bMod, bFdv, bPow, bI, bI0, bAdd, bMul, bLt, bLe, bGt, bGe, bOrdG, bIs, bIsn, bIsG, TL.isNon, bIx, bSetL, fLen, fList, fTuple, fMax2, fMin2, fII, fAbs, fInt, fDivmod, TL.listOf, seqOf, tupOf, atI, ixN, List.getElem?_cons_zero, List.getElem?_cons_succ, List.set_cons_zero, List.set_cons_succ, List.map, List.length_cons, List.length_nil, List.replicate, List.append_nil, List.cons_append, List.nil_append, Option.bind_some, Option.bind, hm, q, p, pur]⟩
      · exact ⟨0, by simp [m_law_purse, s_law_purse, defM, startT, sSeq, sSet, sRet, sIf, sExpr, sNil, sAsg, sPar, sPar3, eVar, eK, eOp, eCall, mCall, eL, eH, aLim, aNil, aCons, aStar, eTup, eIf, bTest, TL.bAnd, TL.bOr, TL.bNot, bYes, eAnd, eOr, eNot, eNeg, eChain, eFld, getI, mgName, mgTup, mgsCons, mgsNil, mgSub, bSub, bMod, bFdv, bPow, bI, bI0, bAdd, bMul, bLt, bLe, bGt, bGe, bOrdG, bIs, bIsn, bIsG, TL.isNon, bIx, bSetL, fLen, fList, fTuple, fMax2, fMin2, fII, fAbs, fInt, fDivmod, TL.listOf, seqOf, tupOf, atI, ixN, List.getElem?_cons_zero, List.getElem?_cons_succ, List.set_cons_zero, List.set_cons_succ, List.map, List.length_cons, List.length_nil, List.replicate, List.append_nil, List.cons_append, List.nil_append, Option.bind_some, Option.bind, hm, q, p, pur]⟩
  obtain ⟨a, e⟩ := key
  refine ⟨_, e, fun o ho => ?_, by simp⟩
  rcases List.mem_append.mp ho with z | z
  · exact A o z
  · rw [List.mem_singleton.mp z]
    exact ⟨_, _, _, rfl, Int.emod_nonneg _ (by omega), Int.emod_lt_of_pos _ (by omega)⟩
theorem cell_ok (ns : List Int) (hl : ns.length ≤ 63) (k : Nat) (hk : k < 4) (h : VH) : ∃ v, m_law_cell [.arg (ns.map T.int), .int (k : Nat)] h = .ok (.int v) h := by
  by_cases q : k < ns.length
  · refine ⟨ns[k], ?_⟩
    have e : atI (ns.map T.int) ((k : Nat) : Int) = some (.int ns[k]) := by
      rw [ix_nn (by omega) (by rw [List.length_map]; omega), Int.toNat_natCast, List.getElem?_map, List.getElem?_eq_getElem q]
      rfl
    have e2 : TL.bIx (.arg (ns.map T.int)) (.int (k : Nat)) h = .ok (.int ns[k]) h := by simp only [TL.bIx, e]
    have et : startT 4 [.arg (ns.map T.int), .int (k : Nat)] = [some (.arg (ns.map T.int)), some (.int (k : Nat)), none, none] := rfl
    have q2 : ((k : Nat) : Int) < (ns.length : Nat) := by omega
    refine defM_rt rfl (seq_rt ?_)
    rw [et]
    refine (if_t (h1 := h) ?_).trans (ret_ok ((op_ok rfl rfl).trans e2))
    refine test_ok (h1 := h) ((op_ok (u := .int (ns.length : Nat)) (h2 := h) rfl ?_).trans ?_)
    · refine (call_ok (ts := [.arg (ns.map T.int)]) rfl).trans ?_
      simp only [fLen, seqOf, List.length_map]
    · simp only [TL.bLt, bOrdG, q2, decide_true]
  · have q2 : ¬ ((k : Nat) : Int) < (ns.length : Nat) := by omega
    have et : startT 4 [.arg (ns.map T.int), .int (k : Nat)] = [some (.arg (ns.map T.int)), some (.int (k : Nat)), none, none] := rfl
    have S1 : sIf (bTest (eOp TL.bLt (eVar 1) (eCall fLen (aCons (eVar 0) aNil)))) (sRet (eOp TL.bIx (eVar 0) (eVar 1))) sNil [some (.arg (ns.map T.int)), some (.int (k : Nat)), none, none] h = .nx [some (.arg (ns.map T.int)), some (.int (k : Nat)), none, none] h := by
      refine (if_f (h1 := h) ?_).trans rfl
      refine test_ok (h1 := h) ((op_ok (u := .int (ns.length : Nat)) (h2 := h) rfl ?_).trans ?_)
      · refine (call_ok (ts := [.arg (ns.map T.int)]) rfl).trans ?_
        simp only [fLen, seqOf, List.length_map]
      · simp only [TL.bLt, bOrdG, q2, decide_false]
    have cR : ∀ (v w : Int), -1000000000000000000 < w → w < 1000000000000000000 → cMul v w = true := fun v w a b => by
      unfold cMul
      rw [Bool.or_eq_true, Bool.and_eq_true, Bool.and_eq_true]
      exact .inr ⟨decide_eq_true a, decide_eq_true b⟩
    have cL : ∀ (v w : Int), -1000000000000000000 < v → v < 1000000000000000000 → cMul v w = true := fun v w a b => by
      unfold cMul
      rw [Bool.or_eq_true, Bool.and_eq_true, Bool.and_eq_true]
      exact .inl ⟨decide_eq_true a, decide_eq_true b⟩
    have md : ∀ (v : Int) (hh : VH), TL.bMod (.int v) (.int 2147483543) hh = .ok (.int (v % 2147483543)) hh := fun v hh => rfl
    obtain ⟨v0, S2⟩ : ∃ v0, sSet 2 (eOp TL.bMod (eCall fInt (aCons (eOp TL.bMul (eK (.int 52361)) (eOp TL.bAdd (eOp TL.bAdd (eOp TL.bMul (eVar 1) (eVar 1)) (eOp TL.bMul (eK (.int 7)) (eVar 1))) (eK (.int 13)))) aNil)) (eK (.int 2147483543))) [some (.arg (ns.map T.int)), some (.int (k : Nat)), none, none] h = .nx [some (.arg (ns.map T.int)), some (.int (k : Nat)), some (.int v0), none] h := by
      refine ⟨_, (set_ok (op_ok (t := .int (52361 * ((k : Int) * (k : Int) + 7 * (k : Int) + 13))) (h1 := h) ?_ rfl |>.trans (md _ h))).trans rfl⟩
      refine (call_ok (cons_ok (t := .int (52361 * ((k : Int) * (k : Int) + 7 * (k : Int) + 13))) (h1 := h) ?_ rfl)).trans (fInt_int _ h)
      refine (op_ok (t := .int 52361) (u := .int ((k : Int) * (k : Int) + 7 * (k : Int) + 13)) (h2 := h) rfl ?_).trans (mul_small h (cL _ _ (by omega) (by omega)))
      refine (op_ok (t := .int ((k : Int) * (k : Int) + 7 * (k : Int))) (u := .int 13) (h2 := h) ?_ rfl).trans (add_int _ _ h)
      refine (op_ok (t := .int ((k : Int) * (k : Int))) (u := .int (7 * (k : Int))) (h1 := h) (h2 := h) ?_ ?_).trans (add_int _ _ h)
      · exact (op_ok (t := .int (k : Nat)) (u := .int (k : Nat)) (h2 := h) rfl rfl).trans (mul_small h (cL _ _ (by omega) (by omega)))
      · exact (op_ok (t := .int 7) (u := .int (k : Nat)) (h2 := h) rfl rfl).trans (mul_small h (cL _ _ (by omega) (by omega)))
    obtain ⟨ms, em⟩ : ∃ ms : List Int, cutT (ns.map T.int) none (some 3) = ms.map T.int := by
      unfold cutT
      rw [← List.map_drop, ← List.map_take]
      exact ⟨_, rfl⟩
    obtain ⟨τ', h', S3, I⟩ := sFor_inv (mi := iSeqC (eSl (eVar 0) oNo (oSome (eK (.int 3))))) (g := mgName 3) (body := sSet 2 (eOp TL.bMod (eCall fInt (aCons (eOp TL.bAdd (eOp TL.bAdd (eOp TL.bMul (eVar 2) (eK (.int 44087))) (eOp TL.bMul (eVar 3) (eK (.int 5)))) (eK (.int 1201))) aNil)) (eK (.int 2147483543)))) (τ := [some (.arg (ns.map T.int)), some (.int (k : Nat)), some (.int v0), none]) (h := h) (h1 := h)
      (rd := fun h => seqS h (.lst (ms.map T.int))) (ts := ms.map T.int) (fun _ τ h' => h' = h ∧ ∃ (v : Int) (c : Option T), τ = [some (.arg (ns.map T.int)), some (.int (k : Nat)), some (.int v), c])
      (by simp only [iSeqC, eSl, eVar, oNo, oSome, eK, List.getElem?_cons_zero, TL.bSl, em, walkable, seqS, seqOf, TL.listOf, Option.isSome, if_true]) ⟨rfl, v0, none, rfl⟩ (fun _ _ _ _ => rfl) (fun i hi τ h' I => by
        obtain ⟨rfl, v, c, rfl⟩ := I
        have hi2 : i < ms.length := by simpa using hi
        have e : (ms.map T.int)[i] = .int ms[i] := List.getElem_map ..
        rw [e]
        generalize ms[i] = m
        refine ⟨[some (.arg (ns.map T.int)), some (.int (k : Nat)), some (.int v), some (.int m)], h', [some (.arg (ns.map T.int)), some (.int (k : Nat)), some (.int ((v * 44087 + m * 5 + 1201) % 2147483543)), some (.int m)], h', rfl, .inl ?_, rfl, _, _, rfl⟩
        refine (set_ok (op_ok (t := .int (v * 44087 + m * 5 + 1201)) (h1 := h') ?_ rfl |>.trans (md _ h'))).trans rfl
        refine (call_ok (cons_ok (t := .int (v * 44087 + m * 5 + 1201)) (h1 := h') ?_ rfl)).trans (fInt_int _ h')
        refine (op_ok (t := .int (v * 44087 + m * 5)) (u := .int 1201) (h2 := h') ?_ rfl).trans (add_int _ _ h')
        refine (op_ok (t := .int (v * 44087)) (u := .int (m * 5)) (h1 := h') (h2 := h') ?_ ?_).trans (add_int _ _ h')
        · exact (op_ok (t := .int v) (u := .int 44087) (h2 := h') rfl rfl).trans (mul_small h' (cR _ _ (by omega) (by omega)))
        · exact (op_ok (t := .int m) (u := .int 5) (h2 := h') rfl rfl).trans (mul_small h' (cR _ _ (by omega) (by omega))))
    obtain ⟨rfl, v, c, rfl⟩ := I
    refine ⟨v, defM_rt rfl ?_⟩
    rw [et]
    exact (seq_nx S1).trans ((seq_nx S2).trans ((seq_nx S3).trans (ret_ok rfl)))
theorem pure_law (ns : List Int) (hl : ns.length ≤ 63) : ∃ h', m_law [.arg (ns.map T.int)] [] = .ok (.bl true) h' := by
  obtain ⟨K, hK⟩ : ∃ K : Nat, K = max 2 (min ns.length 4) := ⟨_, rfl⟩
  have K4 : K ≤ 4 := by omega
  have e3 : aCons (eCall fMax2 (aCons (eK (.int 2)) (aCons (eCall fMin2 (aCons (eCall fLen (aCons (eVar 0) aNil)) (aCons (eK (.int 4)) aNil))) aNil))) aNil [some (.arg (ns.map T.int)), none] [] = .ok [.int (K : Nat)] [] := by
    have a1 : eCall fLen (aCons (eVar 0) aNil) [some (.arg (ns.map T.int)), none] [] = .ok (.int (ns.length : Nat)) [] := by
      refine (call_ok (ts := [.arg (ns.map T.int)]) rfl).trans ?_
      simp only [fLen, seqOf, List.length_map]
    have a2 : fMin2 [.int (ns.length : Nat), .int 4] [] = .ok (.int (min ns.length 4 : Nat)) [] := by
      unfold fMin2 fII
      simp only
      refine congrArg (fun i => Res.ok (T.int i) []) ?_
      split <;> omega
    have a3 : fMax2 [.int 2, .int (min ns.length 4 : Nat)] [] = .ok (.int (K : Nat)) [] := by
      unfold fMax2 fII
      simp only
      refine congrArg (fun i => Res.ok (T.int i) []) ?_
      split <;> omega
    exact cons_ok ((call_ok (cons_ok rfl (cons_ok ((call_ok (cons_ok a1 (cons_ok rfl rfl))).trans a2) rfl))).trans a3) rfl
  obtain ⟨τ', h', q1, q2⟩ := sFor_inv (mi := iRange1 (aCons (eCall fMax2 (aCons (eK (.int 2)) (aCons (eCall fMin2 (aCons (eCall fLen (aCons (eVar 0) aNil)) (aCons (eK (.int 4)) aNil))) aNil))) aNil)) (g := mgName 1) (body := (sIf (TL.bNot (bTest (eCall m_law_case_right (aCons (eCall m_law_purse (aCons (eCall m_law_cell (aCons (eVar 0) (aCons (eVar 1) aNil))) aNil)) aNil)))) (sRet (eK (.bl false))) sNil)) (τ := [some (.arg (ns.map T.int)), none]) (h := []) (h1 := []) (rd := fun _ => some (rangeT 0 K)) (ts := rangeT 0 K)
    (fun _ τ h' => AllP h' ∧ ∃ c, τ = [some (.arg (ns.map T.int)), c]) (rng_ok e3 (by omega)) ⟨fun o ho => (by cases ho), none, rfl⟩ (fun _ _ _ _ => rfl) (fun i hi τ h' I => by
      obtain ⟨A, c, rfl⟩ := I
      obtain ⟨hi2, ei⟩ := range_at hi
      rw [ei, Int.zero_add]
      obtain ⟨v, r1⟩ := cell_ok ns hl i (by omega) h'
      obtain ⟨h2, r2, A2, l2⟩ := purse_ok A v
      obtain ⟨h3, r3, A3, l3⟩ := case_ok (n := h'.length) A2 (by omega)
      refine ⟨[some (.arg (ns.map T.int)), some (.int (i : Nat))], h', [some (.arg (ns.map T.int)), some (.int (i : Nat))], h3, rfl, .inl ?_, A3, _, rfl⟩
      refine (if_f (h1 := h3) ?_).trans rfl
      have b : bTest (eCall m_law_case_right (aCons (eCall m_law_purse (aCons (eCall m_law_cell (aCons (eVar 0) (aCons (eVar 1) aNil))) aNil)) aNil)) [some (.arg (ns.map T.int)), some (.int (i : Nat))] h' = .ok true h3 :=
        test_ok ((call_ok (cons_ok ((call_ok (cons_ok ((call_ok (ts := [.arg (ns.map T.int), .int (i : Nat)]) rfl).trans r1) rfl)).trans r2) rfl)).trans r3)
      unfold TL.bNot
      rw [b]
      rfl)
  obtain ⟨_, c, rfl⟩ := q2
  exact ⟨h', defM_rt rfl ((seq_nx q1).trans (ret_ok rfl))⟩
end
end K33

set_option Elab.async false
set_option linter.all false
set_option maxRecDepth 100000
set_option maxHeartbeats 4000000
namespace K58
open K33
open PySem L2 TL
def kv_FIGURE_OF : List (Str × T) := [("e", (.str "6")), ("n", (.str "8")), ("a", (.str "9")), ("b", (.str "7"))]
def kv_SIZES : List (Str × T) := [("own", (.int (4))), ("pairs", (.int (4))), ("lacks", (.int (5))), ("weight", (.int (7))), ("forced", (.int (4))), ("makes", (.int (5))), ("holds", (.int (5))), ("held", (.int (3))), ("free", (.int (4)))]
def kv_STEPS : List (Str × T) := [("6", (.tup [(.int (1)), (.int (0))])), ("4", (.tup [(.int (-1)), (.int (0))])), ("8", (.tup [(.int (0)), (.int (1))])), ("2", (.tup [(.int (0)), (.int (-1))])), ("9", (.tup [(.int (1)), (.int (1))])), ("1", (.tup [(.int (-1)), (.int (-1))])), ("7", (.tup [(.int (-1)), (.int (1))])), ("3", (.tup [(.int (1)), (.int (-1))]))]
def s_law_bag : MS := (sSeq (sSet 2 (eIf (bTest (eOp bLt (eVar 1) (eCall fLen (aCons (eVar 0) aNil)))) (eOp bIx (eVar 0) (eVar 1)) (eOp bAdd (eOp bMul (eK (.int 6151)) (eVar 1)) (eK (.int 98317)))))
  (sSeq (sFor (iSeqC (eIf (bTest (eOp bGe (eVar 1) (eCall fLen (aCons (eVar 0) aNil)))) (eSl (eVar 0) oNo (oSome (eK (.int 3)))) (eL (aLim aNil)))) (mgName 3) (sSet 2 (eOp bMod (eCall fInt (aCons (eOp bAdd (eOp bMul (eVar 2) (eK (.int 37))) (eVar 3)) aNil)) (eK (.int 2147483587)))))
  (sRet (eH (aLim (aCons (eOp bMod (eCall fInt (aCons (eVar 2) aNil)) (eK (.int 2147483587))) (aCons (eIf (bOr (bTest (eOp bLt (eVar 2) (eK (.int 0)))) (bTest (eOp bGe (eVar 2) (eOp bPow (eK (.int 10)) (eK (.int 18)))))) (eCall fAbs (aCons (eVar 2) aNil)) (eK (.int 0))) (aCons (eK (.int 0)) aNil))))))))
def m_law_bag : List T → VH → Res T := defM 4 2 s_law_bag

def s_sign_at : MS := (sSeq (sSet 3 (eOp bIx (eVar 0) (eOp bMod (eVar 2) (eCall fLen (aCons (eVar 0) aNil)))))
  (sRet (eOp bIx (eVar 3) (eOp bMod (eVar 1) (eCall fLen (aCons (eVar 3) aNil))))))
def m_sign_at : List T → VH → Res T := defM 4 3 s_sign_at

def s_free_from : MS := (sSeq (sAsg (eIxK kv_STEPS (eIxK kv_FIGURE_OF (eVar 1))) (mgTup 2 (mgsCons (mgName 4) (mgsCons (mgName 5) mgsNil))))
  (sSeq (sFor (iRange1 (aCons (eOp bMul (eCall fLen (aCons (eVar 0) aNil)) (eCall fLen (aCons (eOp bIx (eVar 0) (eK (.int 0))) aNil))) aNil)) (mgName 6) (sIf (bTest (eOp bEq (eCall m_sign_at (aCons (eVar 0) (aCons (eOp bAdd (eVar 2) (eOp bMul (eVar 6) (eVar 4))) (aCons (eOp bAdd (eVar 3) (eOp bMul (eVar 6) (eVar 5))) aNil)))) (eIxK kv_FIGURE_OF (eVar 1)))) (sRet (eOp bAdd (eVar 6) (eK (.int 1)))) sNil))
  (sRet (eK .non))))
def m_free_from : List T → VH → Res T := defM 7 4 s_free_from

def s_has_free : MS := (sSeq (sFor (iRange1 (aCons (eCall fLen (aCons (eVar 0) aNil)) aNil)) (mgName 3) (sFor (iRange1 (aCons (eCall fLen (aCons (eOp bIx (eVar 0) (eK (.int 0))) aNil)) aNil)) (mgName 4) (sSeq (sSet 5 (eCall m_free_from (aCons (eVar 0) (aCons (eVar 1) (aCons (eVar 4) (aCons (eVar 3) aNil))))))
  (sIf (bOr (bTest (eOp bIs (eVar 5) (eK .non))) (bTest (eOp bGe (eVar 5) (eVar 2)))) (sRet (eK (.bl true))) sNil))))
  (sRet (eK (.bl false))))
def m_has_free : List T → VH → Res T := defM 6 3 s_has_free

def s_is_whole : MS := (sRet (eAnd (eIsi (.b "int") (eVar 0)) (eNot (eIsi (.b "bool") (eVar 0)))))
def m_is_whole : List T → VH → Res T := defM 1 1 s_is_whole

def s_is_number : MS := (sRet (eAnd (eCall m_is_whole (aCons (eVar 0) aNil)) (eOp bGt (eVar 0) (eK (.int 0)))))
def m_is_number : List T → VH → Res T := defM 1 1 s_is_number

def s_is_mutual_at : MS := (sSeq (sSet 3 (eCall m_sign_at (aCons (eVar 0) (aCons (eVar 1) (aCons (eVar 2) aNil)))))
  (sSeq (sIf (bTest (eOp bEq (eVar 3) (eK (.str "0")))) (sRet (eK (.bl true))) sNil)
  (sSeq (sAsg (eIxK kv_STEPS (eVar 3)) (mgTup 2 (mgsCons (mgName 4) (mgsCons (mgName 5) mgsNil))))
  (sRet (eOp bEq (eCall fInt (aCons (eCall m_sign_at (aCons (eVar 0) (aCons (eOp bAdd (eVar 1) (eVar 4)) (aCons (eOp bAdd (eVar 2) (eVar 5)) aNil)))) aNil)) (eOp bSub (eK (.int 10)) (eCall fInt (aCons (eVar 3) aNil))))))))
def m_is_mutual_at : List T → VH → Res T := defM 6 3 s_is_mutual_at

def s_rows_told : MS := (sSeq (sSet 1 (eIf (bTest (eIsi (.b "str") (eVar 0))) (eRev (eMt "str" mSplit (eVar 0) (aCons (eK (.str "/")) aNil))) (eL (aLim aNil))))
  (sSeq (sIf (bOr (bNot (bTest (eChain bLt bLe (eK (.int 0)) (eCall fLen (aCons (eVar 1) aNil)) (eK (.int 12))))) (bNot (bTest (eChain bLt bLe (eK (.int 0)) (eCall fLen (aCons (eOp bIx (eVar 1) (eK (.int 0))) aNil)) (eK (.int 12)))))) (sRet (eK .non)) sNil)
  (sSeq (sIf (bNot (bTest (eCall fAll (aCons (eL (mLc (iSeqC (eVar 1)) [2] (mgName 2) bYes (eAnd (eOp bEq (eCall fLen (aCons (eVar 2) aNil)) (eCall fLen (aCons (eOp bIx (eVar 1) (eK (.int 0))) aNil))) (eCall fAll (aCons (eL (mLc (iSeqC (eVar 2)) [3] (mgName 3) bYes (eOr (eOp bEq (eVar 3) (eK (.str "0"))) (eInK false kv_STEPS (eVar 3))))) aNil))))) aNil)))) (sRet (eK .non)) sNil)
  (sRet (eVar 1)))))
def m_rows_told : List T → VH → Res T := defM 4 1 s_rows_told

def s_tile_told : MS := (sSeq (sSet 1 (eCall m_rows_told (aCons (eVar 0) aNil)))
  (sSeq (sIf (bTest (eOp bIs (eVar 1) (eK .non))) (sRet (eK .non)) sNil)
  (sSeq (sSet 2 (eL (mLc (iRange1 (aCons (eCall fLen (aCons (eVar 1) aNil)) aNil)) [3] (mgName 3) bYes (eCall fAll (aCons (eL (mLc (iRange1 (aCons (eCall fLen (aCons (eOp bIx (eVar 1) (eK (.int 0))) aNil)) aNil)) [4] (mgName 4) bYes (eCall m_is_mutual_at (aCons (eVar 1) (aCons (eVar 4) (aCons (eVar 3) aNil)))))) aNil)))))
  (sRet (eIf (bTest (eCall fAll (aCons (eVar 2) aNil))) (eVar 1) (eK .non))))))
def m_tile_told : List T → VH → Res T := defM 5 1 s_tile_told

def s_shows_pattern : MS := (sSeq (sSet 2 (eCall m_tile_told (aCons (eOp bIx (eVar 0) (eK (.int 1))) aNil)))
  (sSeq (sIf (bOr (bTest (eOp bIs (eVar 2) (eK .non))) (bOr (bTest (eOp bIsn (eVar 1) (eK .non))) (bNot (bTest (eCall m_is_number (aCons (eOp bIx (eVar 0) (eNeg (eK (.int 1)))) aNil)))))) (sRet (eK (.bl false))) sNil)
  (sSeq (sIf (bTest (eOp bEq (eOp bIx (eVar 0) (eK (.int 0))) (eK (.str "held")))) (sRet (eNot (eCall fAny (aCons (eL (mLc (iKeysK kv_FIGURE_OF) [3] (mgName 3) bYes (eCall m_has_free (aCons (eVar 2) (aCons (eVar 3) (aCons (eOp bIx (eVar 0) (eK (.int 2))) aNil)))))) aNil)))) sNil)
  (sRet (eAnd (eIsi (.b "str") (eOp bIx (eVar 0) (eK (.int 2)))) (eAnd (eInK false kv_FIGURE_OF (eOp bIx (eVar 0) (eK (.int 2)))) (eCall m_has_free (aCons (eVar 2) (aCons (eOp bIx (eVar 0) (eK (.int 2))) (aCons (eOp bIx (eVar 0) (eK (.int 3))) aNil))))))))))
def m_shows_pattern : List T → VH → Res T := defM 4 2 s_shows_pattern

def s_accepts : MS := (sSeq (sIf (bOr (bNot (bTest (eIsi (.b "tuple") (eVar 0)))) (bOr (bTest (eOp bEq (eVar 0) (eTup aNil))) (bNot (bTest (eIsi (.b "str") (eOp bIx (eVar 0) (eK (.int 0)))))))) (sRet (eK (.bl false))) sNil)
  (sSeq (sIf (bTest (eOp bNe (eGetK kv_SIZES (eOp bIx (eVar 0) (eK (.int 0)))) (eCall fLen (aCons (eVar 0) aNil)))) (sRet (eK (.bl false))) sNil)
  (sSeq (sIf (bTest (eOp bIn (eOp bIx (eVar 0) (eK (.int 0))) (eTup (aCons (eK (.str "held")) (aCons (eK (.str "free")) aNil))))) (sRet (eCall m_shows_pattern (aCons (eVar 0) (aCons (eVar 1) aNil)))) sNil)
  sBad)))
def m_accepts : List T → VH → Res T := defM 2 2 s_accepts

def s_law_judge : MS := (sSeq (sSet 3 (eL (aLim (aCons (eCall m_accepts (aCons (eVar 0) (aCons (eVar 1) aNil))) (aCons (eCall m_accepts (aPerm [1, 0] (aCons (eVar 1) (aCons (eVar 0) aNil)))) aNil)))))
  (sRet (eOp bEq (eCall fRepr (aCons (eVar 3) aNil)) (eCall fRepr (aCons (eL (aLim (aCons (eVar 2) (aCons (eVar 2) aNil)))) aNil)))))
def m_law_judge : List T → VH → Res T := defM 4 3 s_law_judge

def s_law_take : MS := (sSeq (sAsg (eOp bAdd (eOp bIx (eVar 0) (eK (.int 2))) (eK (.int 1))) (mgSub bSetL (eVar 0) (eK (.int 2))))
  (sSeq (sSet 2 (eCall fInt (aCons (eOp bIx (eVar 0) (eK (.int 0))) aNil)))
  (sSeq (sSet 3 (eOp bFdv (eVar 2) (eK (.int 4093))))
  (sSeq (sAsg (eOp bMod (eCall fInt (aCons (eOp bAdd (eOp bAdd (eOp bAdd (eOp bMul (eVar 2) (eK (.int 39373))) (eOp bMul (eVar 3) (eVar 3))) (eOp bMul (eK (.int 92821)) (eOp bIx (eVar 0) (eK (.int 2))))) (eK (.int 5))) aNil)) (eK (.int 2147483587))) (mgSub bSetL (eVar 0) (eK (.int 0))))
  (sSeq (sIf (bTest (eOp bGt (eOp bIx (eVar 0) (eK (.int 1))) (eK (.int 0)))) (sSeq (sAsg (eCall fDivmod (aCons (eOp bIx (eVar 0) (eK (.int 1))) (aCons (eVar 1) aNil))) (mgTup 2 (mgsCons (mgSub bSetL (eVar 0) (eK (.int 1))) (mgsCons (mgName 4) mgsNil))))
  (sRet (eVar 4))) sNil)
  (sRet (eOp bMod (eCall fInt (aCons (eOp bFdv (eOp bIx (eVar 0) (eK (.int 0))) (eK (.int 512))) aNil)) (eVar 1))))))))
def m_law_take : List T → VH → Res T := defM 5 2 s_law_take

def s_law_of : MS := (sRet (eOp bIx (eVar 1) (eCall m_law_take (aCons (eVar 0) (aCons (eCall fLen (aCons (eVar 1) aNil)) aNil)))))
def m_law_of : List T → VH → Res T := defM 2 2 s_law_of

def s_law_ahead : MS := (sRet (eOp bGetD (eDisp (pCons (eK (.str "6")) (eTup (aCons (eK (.int 1)) (aCons (eK (.int 0)) aNil))) (pCons (eK (.str "4")) (eTup (aCons (eNeg (eK (.int 1))) (aCons (eK (.int 0)) aNil))) (pCons (eK (.str "8")) (eTup (aCons (eK (.int 0)) (aCons (eK (.int 1)) aNil))) (pCons (eK (.str "2")) (eTup (aCons (eK (.int 0)) (aCons (eNeg (eK (.int 1))) aNil))) (pCons (eK (.str "9")) (eTup (aCons (eK (.int 1)) (aCons (eK (.int 1)) aNil))) (pCons (eK (.str "1")) (eTup (aCons (eNeg (eK (.int 1))) (aCons (eNeg (eK (.int 1))) aNil))) (pCons (eK (.str "7")) (eTup (aCons (eNeg (eK (.int 1))) (aCons (eK (.int 1)) aNil))) (pCons (eK (.str "3")) (eTup (aCons (eK (.int 1)) (aCons (eNeg (eK (.int 1))) aNil))) pNil))))))))) (eVar 0)))
def m_law_ahead : List T → VH → Res T := cutM (defM 1 1 s_law_ahead)

def s_law_run_free : MS := (sSeq (sPar3 3 4 5 (aCons (eCall fLen (aCons (eOp bIx (eVar 0) (eK (.int 0))) aNil)) (aCons (eCall fLen (aCons (eVar 0) aNil)) (aCons (eCall m_law_ahead (aCons (eVar 1) aNil)) aNil))))
  (sSeq (sFor (iRange1 (aCons (eVar 4) aNil)) (mgName 6) (sFor (iRange1 (aCons (eVar 3) aNil)) (mgName 7) (sSeq (sSet 8 (eH (aLim aNil)))
  (sSeq (sFor (iRange1 (aCons (eCall fMin2 (aCons (eOp bSub (eVar 2) (eK (.int 1))) (aCons (eOp bMul (eVar 3) (eVar 4)) aNil))) aNil)) (mgName 9) (sSeq (sSet 10 (eOp bIx (eVar 0) (eOp bMod (eCall fInt (aCons (eOp bAdd (eVar 6) (eOp bMul (eVar 9) (eOp bIx (eVar 5) (eK (.int 1))))) aNil)) (eVar 4))))
  (sExpr (eMt "list" mAppend (eVar 8) (aCons (eOp bIx (eVar 10) (eOp bMod (eCall fInt (aCons (eOp bAdd (eVar 7) (eOp bMul (eVar 9) (eOp bIx (eVar 5) (eK (.int 0))))) aNil)) (eVar 3))) aNil)))))
  (sIf (bTest (eOp bNin (eVar 1) (eVar 8))) (sRet (eK (.bl true))) sNil)))))
  (sRet (eK (.bl false)))))
def m_law_run_free : List T → VH → Res T := cutM (defM 11 3 s_law_run_free)

def s_law_tile : MS := (sSeq (sSet 4 (eL (mLc (iRange1 (aCons (eVar 2) aNil)) [5] (mgName 5) bYes (eH (mMul (eL (aLim (aCons (eK (.str "0")) aNil))) (eVar 1))))))
  (sSeq (sFor (iRange1 (aCons (eVar 3) aNil)) (mgName 6) (sSeq (sPar3 7 8 9 (aCons (eCall m_law_take (aCons (eVar 0) (aCons (eVar 1) aNil))) (aCons (eCall m_law_take (aCons (eVar 0) (aCons (eVar 2) aNil))) (aCons (eCall m_law_of (aCons (eVar 0) (aCons (eL (aLim (aCons (eK (.str "6")) (aCons (eK (.str "8")) (aCons (eK (.str "9")) (aCons (eK (.str "7")) aNil)))))) aNil))) aNil))))
  (sSeq (sSet 10 (eCall m_law_ahead (aCons (eVar 9) aNil)))
  (sSeq (sPar 11 12 (aCons (eOp bMod (eCall fInt (aCons (eOp bAdd (eVar 7) (eOp bIx (eVar 10) (eK (.int 0)))) aNil)) (eVar 1)) (aCons (eOp bMod (eCall fInt (aCons (eOp bAdd (eVar 8) (eOp bIx (eVar 10) (eK (.int 1)))) aNil)) (eVar 2)) aNil)))
  (sIf (bAnd (bTest (eOp bNe (eTup (aCons (eVar 7) (aCons (eVar 8) aNil))) (eTup (aCons (eVar 11) (aCons (eVar 12) aNil))))) (bAnd (bTest (eOp bEq (eOp bIx (eOp bIx (eVar 4) (eVar 8)) (eVar 7)) (eK (.str "0")))) (bTest (eOp bEq (eOp bIx (eOp bIx (eVar 4) (eVar 12)) (eVar 11)) (eK (.str "0")))))) (sAsg (eTup (aCons (eVar 9) (aCons (eCall fStr (aCons (eOp bSub (eK (.int 10)) (eCall fInt (aCons (eVar 9) aNil))) aNil)) aNil))) (mgTup 2 (mgsCons (mgSub bSetL (eOp bIx (eVar 4) (eVar 8)) (eVar 7)) (mgsCons (mgSub bSetL (eOp bIx (eVar 4) (eVar 12)) (eVar 11)) mgsNil)))) sNil)))))
  (sRet (eL (mLc (iSeqC (eVar 4)) [13] (mgName 13) bYes (eMt "str" mJoin (eK (.str "")) (aCons (eVar 13) aNil)))))))
def m_law_tile : List T → VH → Res T := cutM (defM 14 4 s_law_tile)

def s_law_tile_text : MS := (sRet (eMt "str" mJoin (eK (.str "/")) (aCons (eRev (eVar 0)) aNil)))
def m_law_tile_text : List T → VH → Res T := defM 1 1 s_law_tile_text

def s_law_right : MS := (sSeq (sFor (iRange1 (aCons (eK (.int 5)) aNil)) (mgName 1) (sSeq (sPar 2 3 (aCons (eOp bAdd (eK (.int 1)) (eCall m_law_take (aCons (eVar 0) (aCons (eK (.int 6)) aNil)))) (aCons (eOp bAdd (eK (.int 1)) (eCall m_law_take (aCons (eVar 0) (aCons (eK (.int 6)) aNil)))) aNil)))
  (sSeq (sSet 4 (eCall m_law_tile (aCons (eVar 0) (aCons (eVar 2) (aCons (eVar 3) (aCons (eCall m_law_of (aCons (eVar 0) (aCons (eL (aLim (aCons (eK (.int 2)) (aCons (eK (.int 10)) (aCons (eK (.int 60)) (aCons (eK (.int 60)) aNil)))))) aNil))) aNil))))))
  (sSeq (sSet 5 (eCall m_law_tile_text (aCons (eVar 4) aNil)))
  (sSeq (sSet 6 (eCall (cutM (makeM 2 m_Pattern___init__)) (aCons (eVar 5) aNil)))
  (sFor (iSeqC (eL (aLim (aCons (eTup (aCons (eK (.str "e")) (aCons (eK (.str "6")) aNil))) (aCons (eTup (aCons (eK (.str "n")) (aCons (eK (.str "8")) aNil))) (aCons (eTup (aCons (eK (.str "a")) (aCons (eK (.str "9")) aNil))) (aCons (eTup (aCons (eK (.str "b")) (aCons (eK (.str "7")) aNil))) aNil))))))) (mgTup 2 (mgsCons (mgName 7) (mgsCons (mgName 8) mgsNil))) (sSeq (sPar 9 10 (aCons (eCall m_longest_free (aCons (eVar 6) (aCons (eVar 7) aNil))) (aCons (eK (.bl true)) aNil)))
  (sSeq (sFor (iSeqC (eOp bAdd (eL (mRg2 (eK (.int 1)) (eK (.int 15)))) (eL (aLim (aCons (eK (.int 40)) (aCons (eOp bPow (eK (.int 10)) (eK (.int 30))) aNil)))))) (mgName 11) (sSeq (sSet 12 (eCall m_law_run_free (aCons (eVar 4) (aCons (eVar 8) (aCons (eVar 11) aNil)))))
  (sSeq (sIf (bOr (bNot (bTest (eCall m_law_judge (aCons (eTup (aCons (eK (.str "free")) (aCons (eVar 5) (aCons (eVar 7) (aCons (eVar 11) aNil))))) (aCons (eK .non) (aCons (eVar 12) aNil)))))) (bAnd (bTest (eVar 12)) (bNot (bTest (eVar 10))))) (sRet (eK (.bl false))) sNil)
  (sSeq (sIf (bTest (eOp bNe (eVar 12) (eOr (eOp bIs (eVar 9) (eK .non)) (eOp bLe (eVar 11) (eVar 9))))) (sRet (eK (.bl false))) sNil)
  (sSet 10 (eVar 12))))))
  (sSeq (sSet 13 (eCall m_law_of (aCons (eVar 0) (aCons (eL (aLim (aCons (eTup aNil) (aCons (eK (.int 0)) (aCons (eK (.bl false)) (aCons (eK (.str "")) (aCons (eK (.bl true)) (aCons (eTup (aCons (eK .non) aNil)) (aCons eDNew (aCons (eL (aLim aNil)) aNil)))))))))) aNil))))
  (sIf (bNot (bTest (eCall m_law_judge (aCons (eTup (aCons (eK (.str "free")) (aCons (eVar 5) (aCons (eVar 7) (aCons (eK (.int 1)) aNil))))) (aCons (eVar 13) (aCons (eK (.bl false)) aNil)))))) (sRet (eK (.bl false))) sNil))))))))))
  (sRet (eK (.bl true))))
def m_law_right : List T → VH → Res T := defM 14 1 s_law_right

def s_law : MS := (sRet (eCall fAll (aCons (eL (mLc (iRange1 (aCons (eCall fMax2 (aCons (eK (.int 2)) (aCons (eCall fMin2 (aCons (eCall fLen (aCons (eVar 0) aNil)) (aCons (eK (.int 4)) aNil))) aNil))) aNil)) [1] (mgName 1) bYes (eCall m_law_right (aCons (eCall m_law_bag (aCons (eVar 0) (aCons (eVar 1) aNil))) aNil)))) aNil)))
def m_law : List T → VH → Res T := defM 2 1 s_law

end K58

set_option Elab.async false
set_option linter.all false
set_option maxRecDepth 100000
set_option maxHeartbeats 4000000
namespace K58
open K33
open PySem L2 TL
theorem cm_l {i j : Int} (h : -1000000000000 < i) (h2 : i < 1000000000000) : cMul i j = true := by
  unfold cMul
  rw [Bool.or_eq_true, Bool.and_eq_true, Bool.and_eq_true]
  exact .inl ⟨decide_eq_true (by omega), decide_eq_true (by omega)⟩
theorem cm_r {i j : Int} (h : -1000000000000 < j) (h2 : j < 1000000000000) : cMul i j = true := by
  unfold cMul
  rw [Bool.or_eq_true, Bool.and_eq_true, Bool.and_eq_true]
  exact .inr ⟨decide_eq_true (by omega), decide_eq_true (by omega)⟩
def bag (a b c : Int) : VO := .lst [.int a, .int b, .int c]
def IsB (o : VO) : Prop := ∃ a b c, o = bag a b c ∧ 0 ≤ a ∧ a < 2147483587
/-- nothing in the heap tells of another thing of the heap -/
def Flat (h : VH) : Prop := ∀ o ∈ h, ∀ m, VO.lowR m o = true
/-- the draws stand at n -/
structure Iv (n : Nat) (h : VH) : Prop where
  bg : ∃ o, h[n]? = some o ∧ IsB o
  fl : Flat h
theorem Iv.lt {n : Nat} {h : VH} (I : Iv n h) : n < h.length := let ⟨_, e, _⟩ := I.bg; (List.getElem?_eq_some_iff.mp e).1
theorem Flat.low {h : VH} (f : Flat h) (m : Nat) : h.all (VO.lowR m) = true := List.all_eq_true.mpr fun o ho => f o ho m
theorem Flat.set {h : VH} (f : Flat h) {n : Nat} {o : VO} (ho : ∀ m, VO.lowR m o = true) : Flat (h.set n o) := fun p hp m => by
  rcases List.mem_or_eq_of_mem_set hp with z | rfl
  · exact f p z m
  · exact ho m
theorem Flat.app {h : VH} (f : Flat h) {o : VO} (ho : ∀ m, VO.lowR m o = true) : Flat (h ++ [o]) := fun p hp m => by
  rcases List.mem_append.mp hp with z | z
  · exact f p z m
  · rw [List.mem_singleton.mp z]; exact ho m
theorem IsB.low {o : VO} (i : IsB o) (m : Nat) : VO.lowR m o = true := by
  obtain ⟨a, b, c, rfl, _⟩ := i
  rfl
theorem Iv.set {n : Nat} {h : VH} (I : Iv n h) {o : VO} (i : IsB o) : Iv n (h.set n o) := ⟨⟨o, List.getElem?_set_self I.lt, i⟩, I.fl.set i.low⟩
theorem Iv.app {n : Nat} {h : VH} (I : Iv n h) {o : VO} (ho : ∀ m, VO.lowR m o = true) : Iv n (h ++ [o]) := by
  obtain ⟨p, e, i⟩ := I.bg
  exact ⟨⟨p, by rw [List.getElem?_append_left I.lt]; exact e, i⟩, I.fl.app ho⟩
theorem take_raw {n : Nat} {h : VH} {k : Int} (hp : ∃ o, h[n]? = some o ∧ IsB o) (hk : 0 < k) (hk2 : k < 1000000) : ∃ r o, m_law_take [.ref n, .int k] h = .ok (.int r) (h.set n o) ∧ 0 ≤ r ∧ r < k ∧ IsB o := by
  obtain ⟨o, e, a, b, c, rfl, ha, ha2⟩ := hp
  have hn : n < h.length := (List.getElem?_eq_some_iff.mp e).1
  unfold bag at e
  have hs : ∀ x : VO, (h.set n x)[n]? = some x := fun x => List.getElem?_set_self hn
  clear hn
  have m1 : cMul a 39373 = true := cm_r (by omega) (by omega)
  have m2 : cMul (a / 4093) (a / 4093) = true := cm_l (by omega) (by omega)
  have m3 : cMul 92821 (c + 1) = true := cm_l (by omega) (by omega)
  obtain ⟨s, hs2⟩ : ∃ s, s = (a * 39373 + a / 4093 * (a / 4093) + 92821 * (c + 1) + 5) % 2147483587 := ⟨_, rfl⟩
  have s0 : 0 ≤ s := by rw [hs2]; exact Int.emod_nonneg _ (by omega)
  have s1 : s < 2147483587 := by rw [hs2]; exact Int.emod_lt_of_pos _ (by omega)
  by_cases hb : 0 < b
  · refine ⟨b % k, bag s (b / k) (c + 1), ?_, Int.emod_nonneg _ (by omega), Int.emod_lt_of_pos _ hk, _, _, _, rfl, s0, s1⟩
    have hq : Builtin.divisionGoesByPylong b k = false := PyProof.noPylong_small (by omega)
    simp [m_law_take, s_law_take, defM, startT, sSeq, sSet, sRet, sIf, sExpr, sNil, sAsg, sPar, sPar3, eVar, eK, eOp, eCall, mCall, eL, eH, aLim, aNil, aCons, aStar, eTup, eIf, bTest, TL.bAnd, TL.bOr, TL.bNot, bYes, eAnd, eOr, eNot, eNeg, eChain, eFld, getI, mgName, mgTup, mgsCons, mgsNil, mgSub, bSub, bMod, bFdv, bPow, bI, bI0, bAdd, bMul, bLt, bLe, bGt, bGe, bOrdG, bIs, bIsn, bIsG, TL.isNon, bIx, bSetL, fLen, fList, fTuple, fMax2, fMin2, fII, fAbs, fInt, fDivmod, TL.listOf, seqOf, tupOf, atI, ixN, List.getElem?_cons_zero, List.getElem?_cons_succ, List.set_cons_zero, List.set_cons_succ, List.map, List.length_cons, List.length_nil, List.replicate, List.append_nil, List.cons_append, List.nil_append, Option.bind_some, Option.bind, e, hb, hk, hq, hs, bag, m1, m2, m3, ← hs2]
  · refine ⟨s / 512 % k, bag s b (c + 1), ?_, Int.emod_nonneg _ (by omega), Int.emod_lt_of_pos _ hk, _, _, _, rfl, s0, s1⟩
    simp [m_law_take, s_law_take, defM, startT, sSeq, sSet, sRet, sIf, sExpr, sNil, sAsg, sPar, sPar3, eVar, eK, eOp, eCall, mCall, eL, eH, aLim, aNil, aCons, aStar, eTup, eIf, bTest, TL.bAnd, TL.bOr, TL.bNot, bYes, eAnd, eOr, eNot, eNeg, eChain, eFld, getI, mgName, mgTup, mgsCons, mgsNil, mgSub, bSub, bMod, bFdv, bPow, bI, bI0, bAdd, bMul, bLt, bLe, bGt, bGe, bOrdG, bIs, bIsn, bIsG, TL.isNon, bIx, bSetL, fLen, fList, fTuple, fMax2, fMin2, fII, fAbs, fInt, fDivmod, TL.listOf, seqOf, tupOf, atI, ixN, List.getElem?_cons_zero, List.getElem?_cons_succ, List.set_cons_zero, List.set_cons_succ, List.map, List.length_cons, List.length_nil, List.replicate, List.append_nil, List.cons_append, List.nil_append, Option.bind_some, Option.bind, e, hb, hk, hs, bag, m1, m2, m3, ← hs2]
theorem take_ok {n : Nat} {h R : VH} {k : Int} (I : Iv n h) (hk : 0 < k) (hk2 : k < 1000000) : ∃ (r : Nat) (h' : VH), m_law_take [.ref n, .int k] (h ++ R) = .ok (.int (r : Nat)) (h' ++ R) ∧ (r : Int) < k ∧ Iv n h' ∧ h'.length = h.length := by
  have hn := I.lt
  obtain ⟨o0, e0, i0⟩ := I.bg
  obtain ⟨r, o, e, r0, r1, io⟩ := take_raw (h := h ++ R) ⟨o0, by rw [List.getElem?_append_left hn]; exact e0, i0⟩ hk hk2
  refine ⟨r.toNat, h.set n o, ?_, by omega, I.set io, List.length_set⟩
  rw [e, List.set_append_left _ _ hn]
  refine congrArg (fun i => Res.ok (T.int i) _) ?_
  omega
theorem of_ok {n : Nat} {h R : VH} {ts : List T} (I : Iv n h) (h0 : 0 < ts.length) (h1 : ts.length < 1000000) : ∃ (r : Nat) (h' : VH) (t : T), m_law_of [.ref n, .lst ts] (h ++ R) = .ok t (h' ++ R) ∧ ts[r]? = some t ∧ Iv n h' ∧ h'.length = h.length := by
  obtain ⟨r, h', e, r1, I', l'⟩ := take_ok (R := R) (k := (ts.length : Int)) I (by omega) (by omega)
  have hr : r < ts.length := by omega
  refine ⟨r, h', ts[r], ?_, List.getElem?_eq_getElem hr, I', l'⟩
  have ix : atI ts (r : Int) = some ts[r] := by rw [ix_nn (by omega) (by omega), Int.toNat_natCast, List.getElem?_eq_getElem hr]
  refine defM_rt rfl (ret_ok ?_)
  refine (op_ok (t := .lst ts) (u := .int (r : Nat)) (h1 := h ++ R) (h2 := h' ++ R) rfl ((call_ok (ts := [.ref n, .int (ts.length : Nat)]) rfl).trans e)).trans ?_
  simp only [TL.bIx, TL.listOf, ix]
def bag1 : MS := (sSet 2 (eIf (bTest (eOp bLt (eVar 1) (eCall fLen (aCons (eVar 0) aNil)))) (eOp TL.bIx (eVar 0) (eVar 1)) (eOp TL.bAdd (eOp TL.bMul (eK (.int 6151)) (eVar 1)) (eK (.int 98317)))))
def bagI : MI := (iSeqC (eIf (bTest (eOp bGe (eVar 1) (eCall fLen (aCons (eVar 0) aNil)))) (eSl (eVar 0) oNo (oSome (eK (.int 3)))) (eL (aLim aNil))))
def bagB : MS := (sSet 2 (eOp TL.bMod (eCall fInt (aCons (eOp TL.bAdd (eOp TL.bMul (eVar 2) (eK (.int 37))) (eVar 3)) aNil)) (eK (.int 2147483587))))
def bagR : MS := (sRet (eH (aLim (aCons (eOp TL.bMod (eCall fInt (aCons (eVar 2) aNil)) (eK (.int 2147483587))) (aCons (eIf (TL.bOr (bTest (eOp bLt (eVar 2) (eK (.int 0)))) (bTest (eOp bGe (eVar 2) (eOp TL.bPow (eK (.int 10)) (eK (.int 18)))))) (eCall fAbs (aCons (eVar 2) aNil)) (eK (.int 0))) (aCons (eK (.int 0)) aNil))))))
theorem bag_eq : s_law_bag = sSeq bag1 (sSeq (sFor bagI (mgName 3) bagB) bagR) := rfl
theorem bag_ok {ns : List Int} {s : Nat} {h : VH} (hs : s < 100) (hf : Flat h) : ∃ h', m_law_bag [.arg (ns.map T.int), .int (s : Nat)] h = .ok (.ref h.length) h' ∧ Iv h.length h' := by
  have s1 : ∃ c : Int, bag1 [some (.arg (ns.map T.int)), some (.int (s : Nat)), none, none] h = .nx [some (.arg (ns.map T.int)), some (.int (s : Nat)), some (.int c), none] h := by
    by_cases q : s < ns.length
    · have ix : atI (ns.map T.int) ((s : Nat) : Int) = some (.int ns[s]) := by rw [ix_nn (by omega) (by rw [List.length_map]; omega), Int.toNat_natCast, List.getElem?_map, List.getElem?_eq_getElem q]; rfl
      exact ⟨ns[s], by simp [bag1, defM, startT, sSeq, sSet, sRet, sIf, sExpr, sNil, sAsg, sPar, sPar3, eVar, eK, eOp, eCall, mCall, eL, eH, aLim, aNil, aCons, aStar, eTup, eIf, bTest, TL.bAnd, TL.bOr, TL.bNot, bYes, eAnd, eOr, eNot, eNeg, eChain, eFld, mgName, mgTup, mgsCons, mgsNil, mgSub, bSub, bMod, bFdv, bPow, bI, bI0, bAdd, bMul, bLt, bLe, bGt, bGe, bOrdG, bIs, bIsn, bIsG, TL.isNon, bIx, bSetL, fLen, fList, fTuple, fMax2, fMin2, fII, fAbs, fInt, fDivmod, TL.listOf, seqOf, tupOf, List.getElem?_cons_zero, List.getElem?_cons_succ, List.set_cons_zero, List.set_cons_succ, List.map, List.length_cons, List.length_nil, List.replicate, List.append_nil, List.cons_append, List.nil_append, Option.bind_some, Option.bind, q, ix]⟩
    · have m1 : cMul 6151 (s : Nat) = true := cm_l (by omega) (by omega)
      exact ⟨_, by simp [bag1, defM, startT, sSeq, sSet, sRet, sIf, sExpr, sNil, sAsg, sPar, sPar3, eVar, eK, eOp, eCall, mCall, eL, eH, aLim, aNil, aCons, aStar, eTup, eIf, bTest, TL.bAnd, TL.bOr, TL.bNot, bYes, eAnd, eOr, eNot, eNeg, eChain, eFld, mgName, mgTup, mgsCons, mgsNil, mgSub, bSub, bMod, bFdv, bPow, bI, bI0, bAdd, bMul, bLt, bLe, bGt, bGe, bOrdG, bIs, bIsn, bIsG, TL.isNon, bIx, bSetL, fLen, fList, fTuple, fMax2, fMin2, fII, fAbs, fInt, fDivmod, TL.listOf, seqOf, tupOf, List.getElem?_cons_zero, List.getElem?_cons_succ, List.set_cons_zero, List.set_cons_succ, List.map, List.length_cons, List.length_nil, List.replicate, List.append_nil, List.cons_append, List.nil_append, Option.bind_some, Option.bind, q, m1]; rfl⟩
  obtain ⟨c, s1⟩ := s1
  obtain ⟨ts, s2, s3⟩ : ∃ ts, bagI [some (.arg (ns.map T.int)), some (.int (s : Nat)), some (.int c), none] h = .ok (fun h => seqS h (.lst ts)) h ∧ ∀ t ∈ ts, ∃ i, t = T.int i := by
    by_cases q : ns.length ≤ s
    · exact ⟨cutT (ns.map T.int) none (some 3), by simp [bagI, defM, startT, sSeq, sSet, sRet, sIf, sExpr, sNil, sAsg, sPar, sPar3, eVar, eK, eOp, eCall, mCall, eL, eH, aLim, aNil, aCons, aStar, eTup, eIf, bTest, TL.bAnd, TL.bOr, TL.bNot, bYes, eAnd, eOr, eNot, eNeg, eChain, eFld, mgName, mgTup, mgsCons, mgsNil, mgSub, bSub, bMod, bFdv, bPow, bI, bI0, bAdd, bMul, bLt, bLe, bGt, bGe, bOrdG, bIs, bIsn, bIsG, TL.isNon, bIx, bSetL, fLen, fList, fTuple, fMax2, fMin2, fII, fAbs, fInt, fDivmod, TL.listOf, seqOf, tupOf, List.getElem?_cons_zero, List.getElem?_cons_succ, List.set_cons_zero, List.set_cons_succ, List.map, List.length_cons, List.length_nil, List.replicate, List.append_nil, List.cons_append, List.nil_append, Option.bind_some, Option.bind, iSeqC, walkable, seqS, eSl, oNo, oSome, bSl, q], fun t ht => by
        unfold cutT at ht
        obtain ⟨i, _, rfl⟩ := List.mem_map.mp (List.mem_of_mem_drop (List.mem_of_mem_take ht))
        exact ⟨i, rfl⟩⟩
    · exact ⟨[], by simp [bagI, defM, startT, sSeq, sSet, sRet, sIf, sExpr, sNil, sAsg, sPar, sPar3, eVar, eK, eOp, eCall, mCall, eL, eH, aLim, aNil, aCons, aStar, eTup, eIf, bTest, TL.bAnd, TL.bOr, TL.bNot, bYes, eAnd, eOr, eNot, eNeg, eChain, eFld, mgName, mgTup, mgsCons, mgsNil, mgSub, bSub, bMod, bFdv, bPow, bI, bI0, bAdd, bMul, bLt, bLe, bGt, bGe, bOrdG, bIs, bIsn, bIsG, TL.isNon, bIx, bSetL, fLen, fList, fTuple, fMax2, fMin2, fII, fAbs, fInt, fDivmod, TL.listOf, seqOf, tupOf, List.getElem?_cons_zero, List.getElem?_cons_succ, List.set_cons_zero, List.set_cons_succ, List.map, List.length_cons, List.length_nil, List.replicate, List.append_nil, List.cons_append, List.nil_append, Option.bind_some, Option.bind, iSeqC, walkable, seqS, eSl, oNo, oSome, bSl, q], fun t ht => by cases ht⟩
  obtain ⟨τ', h', q1, q2⟩ := sFor_inv (g := mgName 3) (body := bagB) (ts := ts) (fun _ τ h' => ∃ (c : Int) (a : Option T), τ = [some (.arg (ns.map T.int)), some (.int (s : Nat)), some (.int c), a] ∧ h' = h) s2 ⟨c, none, rfl, rfl⟩ (fun _ _ _ _ => rfl) (fun i hi τ h' I => by
    obtain ⟨c, a, rfl, rfl⟩ := I
    obtain ⟨p, hp⟩ := s3 _ (List.getElem_mem hi)
    have m1 : cMul c 37 = true := cm_r (by omega) (by omega)
    refine ⟨_, _, _, _, rfl, .inl ?_, (c * 37 + p) % 2147483587, some (.int p), rfl, rfl⟩
    rw [hp]
    simp [bagB, defM, startT, sSeq, sSet, sRet, sIf, sExpr, sNil, sAsg, sPar, sPar3, eVar, eK, eOp, eCall, mCall, eL, eH, aLim, aNil, aCons, aStar, eTup, eIf, bTest, TL.bAnd, TL.bOr, TL.bNot, bYes, eAnd, eOr, eNot, eNeg, eChain, eFld, mgName, mgTup, mgsCons, mgsNil, mgSub, bSub, bMod, bFdv, bPow, bI, bI0, bAdd, bMul, bLt, bLe, bGt, bGe, bOrdG, bIs, bIsn, bIsG, TL.isNon, bIx, bSetL, fLen, fList, fTuple, fMax2, fMin2, fII, fAbs, fInt, fDivmod, TL.listOf, seqOf, tupOf, List.getElem?_cons_zero, List.getElem?_cons_succ, List.set_cons_zero, List.set_cons_succ, List.map, List.length_cons, List.length_nil, List.replicate, List.append_nil, List.cons_append, List.nil_append, Option.bind_some, Option.bind, mgName, m1])
  obtain ⟨c, a, rfl, rfl⟩ := q2
  have s4 : ∃ b, bagR [some (.arg (ns.map T.int)), some (.int (s : Nat)), some (.int c), a] h' = .rt (.ref h'.length) (h' ++ [bag (c % 2147483587) b 0]) := by
    by_cases q : c < 0
    · exact ⟨-c, by simp [bagR, defM, startT, sSeq, sSet, sRet, sIf, sExpr, sNil, sAsg, sPar, sPar3, eVar, eK, eOp, eCall, mCall, eL, eH, aLim, aNil, aCons, aStar, eTup, eIf, bTest, TL.bAnd, TL.bOr, TL.bNot, bYes, eAnd, eOr, eNot, eNeg, eChain, eFld, mgName, mgTup, mgsCons, mgsNil, mgSub, bSub, bMod, bFdv, bPow, bI, bI0, bAdd, bMul, bLt, bLe, bGt, bGe, bOrdG, bIs, bIsn, bIsG, TL.isNon, bIx, bSetL, fLen, fList, fTuple, fMax2, fMin2, fII, fAbs, fInt, fDivmod, TL.listOf, seqOf, tupOf, List.getElem?_cons_zero, List.getElem?_cons_succ, List.set_cons_zero, List.set_cons_succ, List.map, List.length_cons, List.length_nil, List.replicate, List.append_nil, List.cons_append, List.nil_append, Option.bind_some, Option.bind, q, bag]⟩
    · by_cases p : 1000000000000000000 ≤ c
      · exact ⟨c, by simp [bagR, defM, startT, sSeq, sSet, sRet, sIf, sExpr, sNil, sAsg, sPar, sPar3, eVar, eK, eOp, eCall, mCall, eL, eH, aLim, aNil, aCons, aStar, eTup, eIf, bTest, TL.bAnd, TL.bOr, TL.bNot, bYes, eAnd, eOr, eNot, eNeg, eChain, eFld, mgName, mgTup, mgsCons, mgsNil, mgSub, bSub, bMod, bFdv, bPow, bI, bI0, bAdd, bMul, bLt, bLe, bGt, bGe, bOrdG, bIs, bIsn, bIsG, TL.isNon, bIx, bSetL, fLen, fList, fTuple, fMax2, fMin2, fII, fAbs, fInt, fDivmod, TL.listOf, seqOf, tupOf, List.getElem?_cons_zero, List.getElem?_cons_succ, List.set_cons_zero, List.set_cons_succ, List.map, List.length_cons, List.length_nil, List.replicate, List.append_nil, List.cons_append, List.nil_append, Option.bind_some, Option.bind, q, p, bag]⟩
      · exact ⟨0, by simp [bagR, defM, startT, sSeq, sSet, sRet, sIf, sExpr, sNil, sAsg, sPar, sPar3, eVar, eK, eOp, eCall, mCall, eL, eH, aLim, aNil, aCons, aStar, eTup, eIf, bTest, TL.bAnd, TL.bOr, TL.bNot, bYes, eAnd, eOr, eNot, eNeg, eChain, eFld, mgName, mgTup, mgsCons, mgsNil, mgSub, bSub, bMod, bFdv, bPow, bI, bI0, bAdd, bMul, bLt, bLe, bGt, bGe, bOrdG, bIs, bIsn, bIsG, TL.isNon, bIx, bSetL, fLen, fList, fTuple, fMax2, fMin2, fII, fAbs, fInt, fDivmod, TL.listOf, seqOf, tupOf, List.getElem?_cons_zero, List.getElem?_cons_succ, List.set_cons_zero, List.set_cons_succ, List.map, List.length_cons, List.length_nil, List.replicate, List.append_nil, List.cons_append, List.nil_append, Option.bind_some, Option.bind, q, p, bag]⟩
  obtain ⟨b, s4⟩ := s4
  have ib : IsB (bag (c % 2147483587) b 0) := ⟨_, _, _, rfl, Int.emod_nonneg _ (by omega), Int.emod_lt_of_pos _ (by omega)⟩
  refine ⟨h' ++ [bag (c % 2147483587) b 0], ?_, ⟨⟨_, by rw [List.getElem?_append_right (Nat.le_refl _), Nat.sub_self]; rfl, ib⟩, hf.app ib.low⟩⟩
  show defM 4 2 s_law_bag _ _ = _
  rw [bag_eq]
  exact defM_rt rfl ((seq_nx s1).trans ((seq_nx q1).trans s4))
end K58

set_option Elab.async false
set_option linter.all false
set_option maxRecDepth 100000
set_option maxHeartbeats 4000000
namespace K58
open K33
open PySem L2 TL
/-! ### how far a partner lies -/
def ahd : List (T × T) := [(.str "6", .tup [.int 1, .int 0]), (.str "4", .tup [.int (-1), .int 0]), (.str "8", .tup [.int 0, .int 1]), (.str "2", .tup [.int 0, .int (-1)]), (.str "9", .tup [.int 1, .int 1]), (.str "1", .tup [.int (-1), .int (-1)]), (.str "7", .tup [.int (-1), .int 1]), (.str "3", .tup [.int 1, .int (-1)])]
theorem ahd_merge : mergeT [] ahd = some ahd := by with_unfolding_all rfl
theorem ahd_get {a : Nat} (ha : a < 10) (h5 : a ≠ 5) (h0 : a ≠ 0) : getT ahd (.inr (dig a)) = some (.tup [.int (sx a), .int (sy a)]) := by
  have : a = 1 ∨ a = 2 ∨ a = 3 ∨ a = 4 ∨ a = 6 ∨ a = 7 ∨ a = 8 ∨ a = 9 := by omega
  rcases this with rfl | rfl | rfl | rfl | rfl | rfl | rfl | rfl <;> with_unfolding_all rfl
theorem ahead_ok {a : Nat} (ha : a < 10) (h5 : a ≠ 5) (h0 : a ≠ 0) {h : VH} (hf : h.all (VO.lowR h.length) = true) : m_law_ahead [.str (dig a)] h = .ok (.tup [.int (sx a), .int (sy a)]) h := by
  have e1 : defM 1 1 s_law_ahead [.str (dig a)] h = .ok (.tup [.int (sx a), .int (sy a)]) (h ++ [.dct ahd]) := by
    refine defM_rt rfl (ret_ok ?_)
    have e2 : eDisp (pCons (eK (.str "6")) (eTup (aCons (eK (.int 1)) (aCons (eK (.int 0)) aNil))) (pCons (eK (.str "4")) (eTup (aCons (eNeg (eK (.int 1))) (aCons (eK (.int 0)) aNil))) (pCons (eK (.str "8")) (eTup (aCons (eK (.int 0)) (aCons (eK (.int 1)) aNil))) (pCons (eK (.str "2")) (eTup (aCons (eK (.int 0)) (aCons (eNeg (eK (.int 1))) aNil))) (pCons (eK (.str "9")) (eTup (aCons (eK (.int 1)) (aCons (eK (.int 1)) aNil))) (pCons (eK (.str "1")) (eTup (aCons (eNeg (eK (.int 1))) (aCons (eNeg (eK (.int 1))) aNil))) (pCons (eK (.str "7")) (eTup (aCons (eNeg (eK (.int 1))) (aCons (eK (.int 1)) aNil))) (pCons (eK (.str "3")) (eTup (aCons (eK (.int 1)) (aCons (eNeg (eK (.int 1))) aNil))) pNil)))))))) (startT 1 [.str (dig a)]) h = .ok (.ref h.length) (h ++ [.dct ahd]) := by
      unfold eDisp
      have e3 : pCons (eK (.str "6")) (eTup (aCons (eK (.int 1)) (aCons (eK (.int 0)) aNil))) (pCons (eK (.str "4")) (eTup (aCons (eNeg (eK (.int 1))) (aCons (eK (.int 0)) aNil))) (pCons (eK (.str "8")) (eTup (aCons (eK (.int 0)) (aCons (eK (.int 1)) aNil))) (pCons (eK (.str "2")) (eTup (aCons (eK (.int 0)) (aCons (eNeg (eK (.int 1))) aNil))) (pCons (eK (.str "9")) (eTup (aCons (eK (.int 1)) (aCons (eK (.int 1)) aNil))) (pCons (eK (.str "1")) (eTup (aCons (eNeg (eK (.int 1))) (aCons (eNeg (eK (.int 1))) aNil))) (pCons (eK (.str "7")) (eTup (aCons (eNeg (eK (.int 1))) (aCons (eK (.int 1)) aNil))) (pCons (eK (.str "3")) (eTup (aCons (eK (.int 1)) (aCons (eNeg (eK (.int 1))) aNil))) pNil))))))) (startT 1 [.str (dig a)]) h = .ok ahd h := rfl
      rw [e3]
      simp only [ahd_merge]
      rfl
    refine (op_ok e2 (rfl : eVar 0 (startT 1 [.str (dig a)]) (h ++ [.dct ahd]) = .ok (.str (dig a)) _)).trans ?_
    have e4 : (h ++ [VO.dct ahd])[h.length]? = some (.dct ahd) := by simp
    simp only [bGetD, e4, keyT, ahd_get ha h5 h0]
  unfold m_law_ahead cutM
  rw [e1]
  have e5 : (h ++ [VO.dct ahd]).take h.length = h := by simp
  simp only [e5, hf, if_true]
  rfl
/-! ### the text -/
theorem text_ok {G : List (List Nat)} {W H : Nat} (D : Dim G W H) (h : VH) : m_law_tile_text [rowsT G] h = .ok (.str (spell G)) h := by
  have e1 : strsOf ((G.reverse.map rowS).map T.str) = some (G.reverse.map rowS) := strsOf_map _
  have e2 : ((G.map fun r => T.str (rowS r)).reverse) = (G.reverse.map rowS).map T.str := by simp
  have e3 := rows_sum D
  have e4 := D.len
  have e5 := D.h1
  have e6 : ((G.reverse.map rowS).map (·.length)).sum + (G.reverse.map rowS).length * ("/" : Str).length ≤ 1000000 := by
    have l1 : (G.reverse.map rowS).length = H := by simp [e4]
    have l2 : ("/" : Str).length = 1 := by decide
    rw [l1, l2]
    omega
  refine defM_rt rfl (ret_ok ?_)
  unfold rowsT
  simp only [eMt, eK, tyT, beq_self_eq_true, if_true, aCons, aNil, eRev, eVar, startT, List.map_cons, List.map_nil, List.cons_append, List.getElem?_cons_zero, TL.listOf, mJoin, seqOf, e2, e1]
  have e7 : Txt.join "/" (G.reverse.map rowS) = spell G := join_eq _ _
  rw [if_pos e6, e7]
end K58

set_option Elab.async false
set_option linter.all false
set_option maxRecDepth 100000
set_option maxHeartbeats 4000000
namespace K58
open K33
open PySem L2 TL KG
section
variable {G G' : List (List Nat)} {W H : Nat}
abbrev sg (d : Nat) : T := .str (dig d)
def rowsW (G : List (List Nat)) : VH := G.map fun r => .lst (r.map sg)
theorem sg_low (m : Nat) : ∀ r : List Nat, lowRs m (r.map sg) = true
  | [] => rfl
  | a :: r => by simp only [List.map_cons, lowRs, T.lowR, Bool.true_and]; exact sg_low m r
theorem rowsW_flat (G : List (List Nat)) : Flat (rowsW G) := fun o ho m => by
  obtain ⟨r, _, rfl⟩ := List.mem_map.mp ho
  exact sg_low m r
theorem Flat.cat {h k : VH} (a : Flat h) (b : Flat k) : Flat (h ++ k) := fun o ho m => (List.mem_append.mp ho).elim (fun z => a o z m) fun z => b o z m
theorem rowsW_at (D : Dim G W H) {h : VH} {y : Nat} (hy : y < H) : (h ++ rowsW G)[h.length + y]? = some (.lst ((G.getD y []).map sg)) := by
  rw [List.getElem?_append_right (by omega), Nat.add_sub_cancel_left]
  unfold rowsW
  rw [List.getElem?_map, List.getElem?_eq_getElem (by rw [D.len]; exact hy), List.getD_eq_getElem?_getD, List.getElem?_eq_getElem (by rw [D.len]; exact hy)]
  rfl
theorem cellW_at (D : Dim G W H) {h : VH} {x y : Nat} (hx : x < W) (hy : y < H) : TL.bIx (.ref (h.length + y)) (.int (x : Nat)) (h ++ rowsW G) = .ok (sg (cell G W H x y)) (h ++ rowsW G) := by
  have e1 := rowsW_at D (h := h) hy
  have hr : G.getD y [] ∈ G := by
    rw [List.getD_eq_getElem?_getD, List.getElem?_eq_getElem (by rw [D.len]; exact hy)]
    exact List.getElem_mem _
  have hl := D.row _ hr
  have e2 : atI ((G.getD y []).map sg) ((x : Nat) : Int) = some (sg (cell G W H x y)) := by
    rw [ix_nn (by omega) (by rw [List.length_map, hl]; omega), List.getElem?_map, Int.toNat_natCast, cell_nat D hy hx, List.getD_eq_getElem?_getD (l := G.getD y []), List.getElem?_eq_getElem (by rw [hl]; exact hx)]
    rfl
  simp only [TL.bIx, TL.listOf, e1, e2]
theorem setW_at (D : Dim G W H) {h : VH} {x y d : Nat} (hx : x < W) (hy : y < H) : bSetL (.ref (h.length + y)) (.int (x : Nat)) (sg d) (h ++ rowsW G) = .ok () (h ++ rowsW (put G x y d)) := by
  have e1 := rowsW_at D (h := h) hy
  have hr : G.getD y [] ∈ G := by
    rw [List.getD_eq_getElem?_getD, List.getElem?_eq_getElem (by rw [D.len]; exact hy)]
    exact List.getElem_mem _
  have hl := D.row _ hr
  have e2 : ixN ((G.getD y []).map sg).length ((x : Nat) : Int) = some x := by
    unfold ixN
    rw [if_pos (by omega), List.length_map, hl, if_pos (by omega), Int.toNat_natCast]
  unfold bSetL
  simp only [e1, e2]
  rw [List.set_append_right _ _ (by omega), Nat.add_sub_cancel_left]
  unfold rowsW put
  rw [List.map_set, List.map_set]
theorem eq_zero (d : Nat) (h : VH) : TL.bEq (sg d) (.str "0") h = .ok (.bl (decide (d = 0))) h := by
  unfold TL.bEq bEqG
  simp only [dat_str]
  rw [dig_zero]
/-! one turn -/
def tb1 : MS := (sPar3 7 8 9 (aCons (eCall m_law_take (aCons (eVar 0) (aCons (eVar 1) aNil))) (aCons (eCall m_law_take (aCons (eVar 0) (aCons (eVar 2) aNil))) (aCons (eCall m_law_of (aCons (eVar 0) (aCons (eL (aLim (aCons (eK (.str "6")) (aCons (eK (.str "8")) (aCons (eK (.str "9")) (aCons (eK (.str "7")) aNil)))))) aNil))) aNil))))
def tb2 : MS := (sSet 10 (eCall m_law_ahead (aCons (eVar 9) aNil)))
def tb3 : MS := (sPar 11 12 (aCons (eOp TL.bMod (eCall fInt (aCons (eOp TL.bAdd (eVar 7) (eOp TL.bIx (eVar 10) (eK (.int 0)))) aNil)) (eVar 1)) (aCons (eOp TL.bMod (eCall fInt (aCons (eOp TL.bAdd (eVar 8) (eOp TL.bIx (eVar 10) (eK (.int 1)))) aNil)) (eVar 2)) aNil)))
def tc : MB := (TL.bAnd (bTest (eOp bNe (eTup (aCons (eVar 7) (aCons (eVar 8) aNil))) (eTup (aCons (eVar 11) (aCons (eVar 12) aNil))))) (TL.bAnd (bTest (eOp TL.bEq (eOp TL.bIx (eOp TL.bIx (eVar 4) (eVar 8)) (eVar 7)) (eK (.str "0")))) (bTest (eOp TL.bEq (eOp TL.bIx (eOp TL.bIx (eVar 4) (eVar 12)) (eVar 11)) (eK (.str "0"))))))
def tsw : MS := (sAsg (eTup (aCons (eVar 9) (aCons (eCall fStr (aCons (eOp TL.bSub (eK (.int 10)) (eCall fInt (aCons (eVar 9) aNil))) aNil)) aNil))) (mgTup 2 (mgsCons (mgSub bSetL (eOp TL.bIx (eVar 4) (eVar 8)) (eVar 7)) (mgsCons (mgSub bSetL (eOp TL.bIx (eVar 4) (eVar 12)) (eVar 11)) mgsNil))))
def tbody : MS := sSeq tb1 (sSeq tb2 (sSeq tb3 (sIf tc tsw sNil)))
def t1 : MS := (sSet 4 (eL (mLc (iRange1 (aCons (eVar 2) aNil)) [5] (mgName 5) bYes (eH (mMul (eL (aLim (aCons (eK (.str "0")) aNil))) (eVar 1))))))
def tR : MS := (sRet (eL (mLc (iSeqC (eVar 4)) [13] (mgName 13) bYes (eMt "str" mJoin (eK (.str "")) (aCons (eVar 13) aNil)))))
theorem tile_eq : s_law_tile = sSeq t1 (sSeq (sFor (iRange1 (aCons (eVar 3) aNil)) (mgName 6) tbody) tR) := rfl
abbrev tst (n W H K L : Nat) (a c d e f g i j : Option T) : TS_ := [some (.ref n), some (.int (W : Nat)), some (.int (H : Nat)), some (.int (K : Nat)), some (refsT L H), none, a, c, d, e, f, g, i, j]
theorem fInt_w (h : VH) {w : Nat} (iw : IsW w) : fInt [sg w] h = .ok (.int w) h := fInt_dig h w (by unfold IsW at iw; omega) (by unfold IsW at iw; omega)
theorem fStr_w (h : VH) {w : Nat} (iw : IsW w) : fStr [.int ((10 - w : Nat) : Int)] h = .ok (sg (10 - w)) h := fStr_dig h (10 - w) (by unfold IsW at iw; omega) (by unfold IsW at iw; omega)
theorem sign_of {r : Nat} {t : T} (e : [T.str "6", .str "8", .str "9", .str "7"][r]? = some t) : ∃ w, IsW w ∧ t = sg w := by
  match r, e with
  | 0, e => simp at e; exact ⟨6, .inl rfl, e ▸ rfl⟩
  | 1, e => simp at e; exact ⟨8, .inr (.inl rfl), e ▸ rfl⟩
  | 2, e => simp at e; exact ⟨9, .inr (.inr (.inl rfl)), e ▸ rfl⟩
  | 3, e => simp at e; exact ⟨7, .inr (.inr (.inr rfl)), e ▸ rfl⟩
  | r + 4, e => simp at e
theorem tb_ok (D : Dim G W H) (M : Mut G W H) {n K : Nat} {h : VH} (I : Iv n h) (a c d e f g i j : Option T) : ∃ (h' : VH) (G' : List (List Nat)) (c' d' e' f' g' i' : Option T), tbody (tst n W H K h.length a c d e f g i j) (h ++ rowsW G) = .nx (tst n W H K h.length a c' d' e' f' g' i' j) (h' ++ rowsW G') ∧ Iv n h' ∧ h'.length = h.length ∧ Dim G' W H ∧ Mut G' W H := by
  have w0 := D.w0
  have h0 := D.h0
  have w1 := D.w1
  have h1 := D.h1
  obtain ⟨x, k1, r1, hx, I1, l1⟩ := take_ok (R := rowsW G) (k := W) I (by omega) (by omega)
  obtain ⟨y, k2, r2, hy, I2, l2⟩ := take_ok (R := rowsW G) (k := H) I1 (by omega) (by omega)
  obtain ⟨r, k3, t, r3, et, I3, l3⟩ := of_ok (R := rowsW G) (ts := [.str "6", .str "8", .str "9", .str "7"]) I2 (by simp) (by simp)
  obtain ⟨w, iw, rfl⟩ := sign_of et
  have hx2 : x < W := by omega
  have hy2 : y < H := by omega
  have L : h.length = k3.length := by rw [l3, l2, l1]
  obtain ⟨x', ex, hx'⟩ := mod_ix ((x : Int) + sx w) w0
  obtain ⟨y', ey, hy'⟩ := mod_ix ((y : Int) + sy w) h0
  have fl : (k3 ++ rowsW G).all (VO.lowR (k3 ++ rowsW G).length) = true := (I3.fl.cat (rowsW_flat G)).low _
  have r4 := ahead_ok (a := w) (by unfold IsW at iw; omega) (by unfold IsW at iw; omega) (by unfold IsW at iw; omega) fl
  have s1 : tb1 (tst n W H K h.length a c d e f g i j) (h ++ rowsW G) = .nx (tst n W H K h.length a (some (.int (x : Nat))) (some (.int (y : Nat))) (some (sg w)) f g i j) (k3 ++ rowsW G) := by
    simp [tb1, tst, defM, startT, sSeq, sSet, sRet, sIf, sExpr, sNil, sAsg, sPar, sPar3, eVar, eK, eOp, eCall, mCall, eL, eH, aLim, aNil, aCons, aStar, eTup, eIf, bTest, TL.bAnd, TL.bOr, TL.bNot, bYes, eAnd, eOr, eNot, eNeg, eChain, eFld, mgName, mgTup, mgsCons, mgsNil, mgSub, bSub, bMod, bFdv, bPow, bI, bI0, bAdd, bMul, bLt, bLe, bGt, bGe, bOrdG, bIs, bIsn, bIsG, TL.isNon, bIx, bSetL, fLen, fList, fTuple, fMax2, fMin2, fII, fAbs, fInt, fDivmod, TL.listOf, seqOf, tupOf, List.getElem?_cons_zero, List.getElem?_cons_succ, List.set_cons_zero, List.set_cons_succ, List.map, List.length_cons, List.length_nil, List.replicate, List.append_nil, List.cons_append, List.nil_append, Option.bind_some, Option.bind, r1, r2, r3]
  have s2 : tb2 (tst n W H K h.length a (some (.int (x : Nat))) (some (.int (y : Nat))) (some (sg w)) f g i j) (k3 ++ rowsW G) = .nx (tst n W H K h.length a (some (.int (x : Nat))) (some (.int (y : Nat))) (some (sg w)) (some (.tup [.int (sx w), .int (sy w)])) g i j) (k3 ++ rowsW G) := by
    simp only [tb2, tst, sSet, aCons, aNil, eCall, eVar, List.getElem?_cons_succ, List.getElem?_cons_zero, r4, List.set_cons_succ, List.set_cons_zero]
  have i0 : ∀ (p q : Int) (hh : VH), TL.bIx (.tup [.int p, .int q]) (.int 0) hh = .ok (.int p) hh := fun p q hh => rfl
  have i1 : ∀ (p q : Int) (hh : VH), TL.bIx (.tup [.int p, .int q]) (.int 1) hh = .ok (.int q) hh := fun p q hh => rfl
  have s3 : tb3 (tst n W H K h.length a (some (.int (x : Nat))) (some (.int (y : Nat))) (some (sg w)) (some (.tup [.int (sx w), .int (sy w)])) g i j) (k3 ++ rowsW G) = .nx (tst n W H K h.length a (some (.int (x : Nat))) (some (.int (y : Nat))) (some (sg w)) (some (.tup [.int (sx w), .int (sy w)])) (some (.int (x' : Nat))) (some (.int (y' : Nat))) j) (k3 ++ rowsW G) := by
    have wz : ¬ (W : Int) = 0 := by omega
    have hz : ¬ (H : Int) = 0 := by omega
    simp [tb3, tst, sPar, eTup, eOp, eK, aCons, aNil, eCall, eVar, i0, i1, TL.bAdd, bI0, bI, TL.bMod, fInt_int, ex, ey, wz, hz, w0, h0]
  have fin : tbody (tst n W H K h.length a c d e f g i j) (h ++ rowsW G) = sIf tc tsw sNil (tst n W H K h.length a (some (.int (x : Nat))) (some (.int (y : Nat))) (some (sg w)) (some (.tup [.int (sx w), .int (sy w)])) (some (.int (x' : Nat))) (some (.int (y' : Nat))) j) (k3 ++ rowsW G) :=
    (seq_nx s1).trans ((seq_nx s2).trans (seq_nx s3))
  have j1 : ∀ hh, TL.bIx (refsT h.length H) (.int (y : Nat)) hh = .ok (.ref (k3.length + y)) hh := fun hh => by rw [L]; exact refs_at _ hy2 hh
  have j2 : ∀ hh, TL.bIx (refsT h.length H) (.int (y' : Nat)) hh = .ok (.ref (k3.length + y')) hh := fun hh => by rw [L]; exact refs_at _ hy' hh
  have c1 := cellW_at D (h := k3) hx2 hy2
  have c2 := cellW_at D (h := k3) hx' hy'
  have ec : tc (tst n W H K h.length a (some (.int (x : Nat))) (some (.int (y : Nat))) (some (sg w)) (some (.tup [.int (sx w), .int (sy w)])) (some (.int (x' : Nat))) (some (.int (y' : Nat))) j) (k3 ++ rowsW G) = .ok (!decide ((x : Int) = x' ∧ (y : Int) = y') && (decide (cell G W H x y = 0) && decide (cell G W H x' y' = 0))) (k3 ++ rowsW G) := by
    cases q1 : decide ((x : Int) = x' ∧ (y : Int) = y') <;> cases q2 : decide (cell G W H x y = 0) <;> cases q3 : decide (cell G W H x' y' = 0) <;>
      simp only [tc, tst, TL.bAnd, bTest, eOp, eTup, eK, aCons, aNil, eVar, List.getElem?_cons_succ, List.getElem?_cons_zero, bNe_pair, q1, q2, q3, i0, i1, j1, j2, c1, c2, eq_zero, List.length_cons, List.length_nil, Nat.reduceAdd, Nat.reduceLeDiff, if_true, Bool.not_true, Bool.not_false, Bool.and_true, Bool.and_false, Bool.false_and, Bool.true_and]
  rw [fin]
  by_cases q : (!decide ((x : Int) = x' ∧ (y : Int) = y') && (decide (cell G W H x y = 0) && decide (cell G W H x' y' = 0))) = true
  · rw [q] at ec
    rw [if_t ec]
    simp only [Bool.and_eq_true, Bool.not_eq_true', decide_eq_false_iff_not, decide_eq_true_eq] at q
    have D1 := put_dim (x := x) (d := w) D hy2
    have u1 := setW_at D (h := k3) (x := x) (y := y) (d := w) hx2 hy2
    have u2 := setW_at D1 (h := k3) (x := x') (y := y') (d := 10 - w) hx' hy'
    have e10 : (10 : Int) - (w : Int) = ((10 - w : Nat) : Int) := by unfold IsW at iw; omega
    refine ⟨k3, put (put G x y w) x' y' (10 - w), some (.int (x : Nat)), some (.int (y : Nat)), some (sg w), some (.tup [.int (sx w), .int (sy w)]), some (.int (x' : Nat)), some (.int (y' : Nat)), ?_, I3, L.symm, put_dim D1 hy', put_mut D M iw hx2 hy2 ex ey (fun z => q.1 ⟨by omega, by omega⟩) q.2.1 q.2.2⟩
    have fi := fInt_w (k3 ++ rowsW G) iw
    have fs := fStr_w (k3 ++ rowsW G) iw
    simp only [tsw, tst, sAsg, eTup, mgTup, mgsCons, mgsNil, mgSub, eOp, eVar, eK, eCall, aCons, aNil, List.getElem?_cons_succ, List.getElem?_cons_zero, fi, TL.bSub, bI0, e10, fs, j1, j2, u1, u2, List.length_cons, List.length_nil, Nat.reduceAdd, Nat.reduceLeDiff, if_true]
  · rw [Bool.not_eq_true] at q
    rw [q] at ec
    rw [if_f ec]
    exact ⟨k3, G, some (.int (x : Nat)), some (.int (y : Nat)), some (sg w), some (.tup [.int (sx w), .int (sy w)]), some (.int (x' : Nat)), some (.int (y' : Nat)), rfl, I3, L.symm, D, M⟩
end
end K58

set_option Elab.async false
set_option linter.all false
set_option maxRecDepth 100000
set_option maxHeartbeats 4000000
namespace K58
open K33
open PySem L2 TL KG
section
variable {G G' : List (List Nat)} {W H : Nat}
theorem join_row {h : VH} {L y : Nat} (e : h[L + y]? = some (.lst ((G.getD y []).map sg))) (hl : (G.getD y []).length ≤ 12) : mJoin (.str "") [.ref (L + y)] h = .ok (.str (rowS (G.getD y []))) h := by
  have e1 : strsOf ((G.getD y []).map sg) = some ((G.getD y []).map dig) := by
    have := strsOf_map ((G.getD y []).map dig)
    rw [List.map_map] at this
    exact this
  have e2 := sum_len (G.getD y [])
  have e3 : ("" : Str).length = 0 := by decide
  simp only [mJoin, seqOf, TL.listOf, e, e1, e2, e3, join_digs]
  rw [if_pos (by rw [List.length_map]; omega)]
theorem frz_rows (G : List (List Nat)) (n : Nat) (h : VH) : frz n h 4 (rowsT G) = some (rowsT G) := by
  unfold frz
  rw [rowsT_low]
  rfl
theorem tile_ok {n W H K : Nat} {h : VH} (I : Iv n h) (w0 : 0 < W) (w1 : W ≤ 12) (h0 : 0 < H) (h1 : H ≤ 12) (hK : K ≤ 100000) : ∃ (G : List (List Nat)) (h' : VH), m_law_tile [.ref n, .int (W : Nat), .int (H : Nat), .int (K : Nat)] h = .ok (rowsT G) h' ∧ Iv n h' ∧ h'.length = h.length ∧ Dim G W H ∧ Mut G W H := by
  have s1 : t1 (startT 14 [.ref n, .int (W : Nat), .int (H : Nat), .int (K : Nat)]) h = .nx (tst n W H K h.length none none none none none none none none) (h ++ rowsW (List.replicate H (List.replicate W 0))) := by
    have et : startT 14 [.ref n, .int (W : Nat), .int (H : Nat), .int (K : Nat)] = [some (.ref n), some (.int (W : Nat)), some (.int (H : Nat)), some (.int (K : Nat)), none, none, none, none, none, none, none, none, none, none] := rfl
    rw [et]
    have z := lcL_fresh (rd := fun _ => some (rangeT 0 H)) (g := mgName 5) (e := eH (mMul (eL (aLim (aCons (eK (.str "0")) aNil))) (eVar 1))) (τ := [some (.ref n), some (.int (W : Nat)), some (.int (H : Nat)), some (.int (K : Nat)), none, none, none, none, none, none, none, none, none, none]) (ts := rangeT 0 H) (fun _ => rfl) (xs := (List.replicate W [T.str "0"]).flatten) (fun t _ hh => ⟨[some (.ref n), some (.int (W : Nat)), some (.int (H : Nat)), some (.int (K : Nat)), none, some t, none, none, none, none, none, none, none, none], rfl, by
      have c : 1 * ((W : Nat) : Int).toNat ≤ 16777216 ∧ (-1000000000 : Int) ≤ (W : Nat) ∧ ((W : Nat) : Int) ≤ 1000000000 := by
        rw [Int.toNat_natCast]
        omega
      simp only [eH, mMul, eL, aLim, aCons, aNil, eK, eVar, List.getElem?_cons_succ, List.getElem?_cons_zero, List.length_cons, List.length_nil, Nat.reduceAdd, Nat.reduceLeDiff, if_true, TL.listOf]
      rw [if_pos c, Int.toNat_natCast]⟩) H 0 [] h (by rw [range_len]; omega)
    have em : iRange1 (aCons (eVar 2) aNil) [some (.ref n), some (.int (W : Nat)), some (.int (H : Nat)), some (.int (K : Nat)), none, none, none, none, none, none, none, none, none, none] h = .ok (fun _ => some (rangeT 0 H)) h := rng_ok rfl (by omega)
    have ew : wipeT [some (.ref n), some (.int (W : Nat)), some (.int (H : Nat)), some (.int (K : Nat)), none, none, none, none, none, none, none, none, none, none] [5] = [some (.ref n), some (.int (W : Nat)), some (.int (H : Nat)), some (.int (K : Nat)), none, none, none, none, none, none, none, none, none, none] := rfl
    have er : rowsW (List.replicate H (List.replicate W 0)) = List.replicate H (VO.lst (List.replicate W [T.str "0"]).flatten) := by
      unfold rowsW
      rw [List.map_replicate, List.map_replicate, flat_one W (T.str "0")]
      rfl
    rw [range_len] at z
    unfold t1
    refine (set_ok (t := refsT h.length H) (h1 := h ++ rowsW (List.replicate H (List.replicate W 0))) ?_).trans rfl
    refine eL_ok ?_
    unfold mLc
    rw [em]
    simp only [range_len]
    rw [if_pos (by omega), ew, z, er]
    rfl
  have D0 := zero_dim (W := W) (H := H) w0 w1 h0 h1
  have M0 := zero_mut (W := W) (H := H) w0 h0
  obtain ⟨τ', h', q1, q2⟩ := sFor_inv (mi := iRange1 (aCons (eVar 3) aNil)) (g := mgName 6) (body := tbody) (τ := tst n W H K h.length none none none none none none none none) (h := h ++ rowsW (List.replicate H (List.replicate W 0))) (h1 := h ++ rowsW (List.replicate H (List.replicate W 0)))
    (rd := fun _ => some (rangeT 0 K)) (ts := rangeT 0 K) (fun _ τ h' => ∃ (a c d e f g i j : Option T) (h1 : VH) (G : List (List Nat)), τ = tst n W H K h.length a c d e f g i j ∧ h' = h1 ++ rowsW G ∧ Iv n h1 ∧ h1.length = h.length ∧ Dim G W H ∧ Mut G W H)
    (rng_ok rfl hK) ⟨none, none, none, none, none, none, none, none, h, _, rfl, rfl, I, rfl, D0, M0⟩ (fun _ _ _ _ => rfl) (fun i hi τ h' J => by
      obtain ⟨a, c, d, e, f, g, i', j, k1, G, rfl, rfl, B, lk, D, M⟩ := J
      obtain ⟨k2, G2, c', d', e', f', g', i2, z, B2, lk2, D2, M2⟩ := tb_ok D M (K := K) B (some (rangeT 0 K)[i]) c d e f g i' j
      rw [lk] at z
      exact ⟨tst n W H K h.length (some (rangeT 0 K)[i]) c d e f g i' j, k1 ++ rowsW G, _, _, rfl, .inl z, _, c', d', e', f', g', i2, j, k2, G2, rfl, rfl, B2, by rw [lk2, lk], D2, M2⟩)
  obtain ⟨a, c, d, e, f, g, i, j, k1, G, rfl, rfl, B, lk, D, M⟩ := q2
  refine ⟨G, k1, ?_, B, lk, D, M⟩
  have s3 : tR (tst n W H K h.length a c d e f g i j) (k1 ++ rowsW G) = .rt (rowsT G) (k1 ++ rowsW G) := by
    have z := mLc_map (mi := iSeqC (eVar 4)) (ws := [13]) (g := mgName 13) (e := eMt "str" mJoin (eK (.str "")) (aCons (eVar 13) aNil)) (τ := tst n W H K h.length a c d e f g i j) (h := k1 ++ rowsW G) (rd := fun h' => seqS h' (refsT h.length H)) (ts := (List.range H).map fun j => T.ref (h.length + j))
      rfl rfl (by simp; omega) (fun t => match t with | .ref m => .str (rowS (G.getD (m - h.length) [])) | t => t) (fun t ht => by
        obtain ⟨y, hy, rfl⟩ := List.mem_map.mp ht
        have hy := List.mem_range.mp hy
        have e1 := rowsW_at D (h := k1) hy
        rw [lk] at e1
        have hg : G.getD y [] ∈ G := by
          rw [List.getD_eq_getElem?_getD, List.getElem?_eq_getElem (by rw [D.len]; exact hy)]
          exact List.getElem_mem _
        have e2 := join_row e1 (by rw [D.row _ hg]; exact w1)
        refine ⟨tst n W H K h.length a c d e f g i (some (.ref (h.length + y))), rfl, ?_⟩
        simp only [eMt, eK, tyT, beq_self_eq_true, if_true, aCons, aNil, eVar, tst, List.getElem?_cons_succ, List.getElem?_cons_zero, e2, Nat.add_sub_cancel_left])
    refine ret_ok (eL_ok (z.trans ?_))
    rw [List.map_map]
    refine congrArg (fun l => Res.ok l _) ?_
    apply List.ext_getElem (by simp [D.len])
    intro i h1 h2
    have hi : i < G.length := by simpa using h2
    simp [List.getD_eq_getElem?_getD, List.getElem?_eq_getElem hi]
  have fin : defM 14 4 s_law_tile [.ref n, .int (W : Nat), .int (H : Nat), .int (K : Nat)] h = .ok (rowsT G) (k1 ++ rowsW G) := by
    rw [tile_eq]
    exact defM_rt rfl ((seq_nx s1).trans ((seq_nx q1).trans s3))
  have ht : (k1 ++ rowsW G).take h.length = k1 := by rw [← lk]; simp
  unfold m_law_tile cutM
  rw [fin]
  simp only [ht, B.fl.low, if_true, frz_rows]
end
end K58

set_option Elab.async false
set_option linter.all false
set_option maxRecDepth 100000
set_option maxHeartbeats 4000000
namespace K58
open K33
open PySem L2 TL KG
section
variable {G G' : List (List Nat)} {W H : Nat}
theorem ixT_row (D : Dim G W H) (y : Int) (h : VH) : TL.bIx (rowsT G) (.int (y % H)) h = .ok (.str (rowS (rowAt G H y))) h := by
  have e1 := D.ixRow (fun r => T.str (rowS r)) y
  unfold rowsT
  simp only [TL.bIx, TL.listOf, e1]
theorem ixT_sign (D : Dim G W H) (x y : Int) (h : VH) : TL.bIx (.str (rowS (rowAt G H y))) (.int (x % W)) h = .ok (sg (cell G W H x y)) h := by
  have e2 : atI (rowS (rowAt G H y)).cps.toList (x % W) = some (48 + cell G W H x y) := D.ixCell (48 + ·) x y
  have e3 : (rowS (rowAt G H y)).length = W := by rw [rowS_len, D.row _ (D.rowAt_mem y)]
  have e6 := D.w1
  simp [TL.bIx, e2, e3, dig]
theorem first_len (D : Dim G W H) (h : VH) : ∃ r, TL.bIx (rowsT G) (.int 0) h = .ok (.str (rowS r)) h ∧ fLen [.str (rowS r)] h = .ok (.int (W : Nat)) h := by
  have h0 := D.h0
  refine ⟨rowAt G H 0, ?_, ?_⟩
  · have := ixT_row D 0 h
    rwa [Int.zero_emod] at this
  · have e3 : (rowS (rowAt G H 0)).length = W := by rw [rowS_len, D.row _ (D.rowAt_mem 0)]
    have := D.w1
    simp [fLen, e3]
theorem rows_len (D : Dim G W H) (h : VH) : fLen [rowsT G] h = .ok (.int (H : Nat)) h := by
  unfold rowsT
  simp only [fLen, seqOf, TL.listOf, List.length_map, D.len]
theorem mod_ok {i j : Int} (hj : 0 < j) (h : VH) : TL.bMod (.int i) (.int j) h = .ok (.int (i % j)) h := by
  simp [TL.bMod, bI, hj]
theorem dat_signs (h : VH) (k : Nat) (l : List Nat) : (l.map sg).mapM (T.dat h k) = some (l.map fun d => PyData.str (dig d)) := by
  have := mapM_some (l := l.map sg) (f := T.dat h k) (g := fun t => match t with | .str z => .str z | _ => .none) fun t ht => by
    obtain ⟨d, _, rfl⟩ := List.mem_map.mp ht
    exact dat_str
  rw [this, List.map_map]
  rfl
theorem any_signs (a : Nat) (l : List Nat) : ((l.map fun d => PyData.str (dig d)).any fun z => PyData.eqv z (.str (dig a))) = decide (a ∈ l) := by
  induction l with
  | nil => simp
  | cons d l ih =>
    rw [List.map_cons, List.any_cons, ih, dig_eqv]
    by_cases q : d = a
    · simp [q]
    · have : a ≠ d := fun z => q z.symm
      simp [q, this]
theorem nin_signs (a : Nat) (l : List Nat) {h : VH} {m : Nat} (e : h[m]? = some (.lst (l.map sg))) : bNin (sg a) (.ref m) h = .ok (.bl (!decide (a ∈ l))) h := by
  have e1 : T.dat h 11 (.ref m) = some (.list (l.map fun d => PyData.str (dig d))) := by
    unfold T.dat
    simp only [e, dat_signs, Option.map_some]
  have e2 : T.dat h 10 (sg a) = some (.str (dig a)) := dat_str
  have e3 : bNin (sg a) (.ref m) h = (match T.dat h 10 (sg a), T.dat h 11 (.ref m) with
    | some d, some (.list ds) => Res.ok (.bl (true != ds.any fun z => PyData.eqv z d)) h
    | some d, some (.tuple ds) => .ok (.bl (true != ds.any fun z => PyData.eqv z d)) h
    | _, _ => .bad) := rfl
  rw [e3, e1, e2]
  simp only [any_signs, Bool.true_bne]
/-! the innermost loop -/
def fb1 : MS := (sSet 10 (eOp TL.bIx (eVar 0) (eOp TL.bMod (eCall fInt (aCons (eOp TL.bAdd (eVar 6) (eOp TL.bMul (eVar 9) (eOp TL.bIx (eVar 5) (eK (.int 1))))) aNil)) (eVar 4))))
def fb2 : MS := (sExpr (eMt "list" mAppend (eVar 8) (aCons (eOp TL.bIx (eVar 10) (eOp TL.bMod (eCall fInt (aCons (eOp TL.bAdd (eVar 7) (eOp TL.bMul (eVar 9) (eOp TL.bIx (eVar 5) (eK (.int 0))))) aNil)) (eVar 3))) aNil)))
def fI : MI := (iRange1 (aCons (eCall fMin2 (aCons (eOp TL.bSub (eVar 2) (eK (.int 1))) (aCons (eOp TL.bMul (eVar 3) (eVar 4)) aNil))) aNil))
def fN : MB := (bTest (eOp bNin (eVar 1) (eVar 8)))
def fbody : MS := sSeq (sSet 8 (eH (aLim aNil))) (sSeq (sFor fI (mgName 9) (sSeq fb1 fb2)) (sIf fN (sRet (eK (.bl true))) sNil))
def f1 : MS := (sPar3 3 4 5 (aCons (eCall fLen (aCons (eOp TL.bIx (eVar 0) (eK (.int 0))) aNil)) (aCons (eCall fLen (aCons (eVar 0) aNil)) (aCons (eCall m_law_ahead (aCons (eVar 1) aNil)) aNil))))
theorem run_eq : s_law_run_free = sSeq f1 (sSeq (sFor (iRange1 (aCons (eVar 4) aNil)) (mgName 6) (sFor (iRange1 (aCons (eVar 3) aNil)) (mgName 7) fbody)) (sRet (eK (.bl false)))) := rfl
abbrev fst' (G : List (List Nat)) (W H a : Nat) (n : Int) (y x s k r : Option T) : TS_ := [some (rowsT G), some (sg a), some (.int n), some (.int (W : Nat)), some (.int (H : Nat)), some (.tup [.int (sx a), .int (sy a)]), y, x, s, k, r]
/-- the first cells that count -/
def cnt (W H : Nat) (n : Int) : Nat := (min (n - 1) ((W * H : Nat) : Int)).toNat
def als (G : List (List Nat)) (W H a : Nat) (x y : Int) (k : Nat) : List Nat := (List.range k).map fun j => al G W H a x y j
theorem als_succ (a : Nat) (x y : Int) (k : Nat) : als G W H a x y (k + 1) = als G W H a x y k ++ [al G W H a x y k] := by
  unfold als
  rw [List.range_succ, List.map_append]
  rfl
theorem cnt_le (n : Int) : cnt W H n ≤ W * H := by unfold cnt; omega
theorem app_last (h : VH) (ts : List T) (t : T) (hz : ts.length < 16777216) : mAppend (.ref h.length) [t] (h ++ [.lst ts]) = .ok .non (h ++ [.lst (ts ++ [t])]) := by
  have e : (h ++ [VO.lst ts])[h.length]? = some (.lst ts) := by simp
  simp only [mAppend, e, hz, if_true]
  rw [List.set_append_right _ _ (Nat.le_refl _), Nat.sub_self]
  rfl
theorem fb_ok (D : Dim G W H) {a : Nat} (n : Int) (y x i : Nat) (r : Option T) (h : VH) (hi : i < W * H) : (sSeq fb1 fb2) (fst' G W H a n (some (.int (y : Nat))) (some (.int (x : Nat))) (some (.ref h.length)) (some (.int (i : Nat))) r) (h ++ [.lst ((als G W H a x y i).map sg)]) =
    .nx (fst' G W H a n (some (.int (y : Nat))) (some (.int (x : Nat))) (some (.ref h.length)) (some (.int (i : Nat))) (some (.str (rowS (rowAt G H (y + i * sy a)))))) (h ++ [.lst ((als G W H a x y (i + 1)).map sg)]) := by
  have w0 := D.w0
  have h0 := D.h0
  have wh : W * H ≤ 144 := Nat.le_trans (Nat.mul_le_mul D.w1 D.h1) (by omega)
  have m1 : cMul (i : Int) (sy a) = true := cm_l (by omega) (by omega)
  have m2 : cMul (i : Int) (sx a) = true := cm_l (by omega) (by omega)
  have i0 : ∀ (p q : Int) (hh : VH), TL.bIx (.tup [.int p, .int q]) (.int 0) hh = .ok (.int p) hh := fun p q hh => rfl
  have i1 : ∀ (p q : Int) (hh : VH), TL.bIx (.tup [.int p, .int q]) (.int 1) hh = .ok (.int q) hh := fun p q hh => rfl
  have a1 : ∀ (p q : Int) (hh : VH), TL.bAdd (.int p) (.int q) hh = .ok (.int (p + q)) hh := fun p q hh => rfl
  obtain ⟨k0, hk0⟩ : ∃ k0, k0 = h ++ [VO.lst ((als G W H a x y i).map sg)] := ⟨_, rfl⟩
  have ty : k0[h.length]? = some (.lst ((als G W H a x y i).map sg)) := by rw [hk0]; simp
  have ap := app_last h ((als G W H a x y i).map sg) (sg (al G W H a x y i)) (by simp [als]; omega)
  rw [← hk0] at ap ⊢
  have eN : h ++ [VO.lst ((als G W H a x y i).map sg ++ [sg (al G W H a x y i)])] = h ++ [VO.lst ((als G W H a x y (i + 1)).map sg)] := by rw [als_succ, List.map_append]; rfl
  rw [eN] at ap
  clear eN
  obtain ⟨k1, hk1⟩ : ∃ k1, k1 = h ++ [VO.lst ((als G W H a x y (i + 1)).map sg)] := ⟨_, rfl⟩
  rw [← hk1] at ap ⊢
  clear hk0 hk1
  obtain ⟨τ, hτ⟩ : ∃ τ, τ = fst' G W H a n (some (.int (y : Nat))) (some (.int (x : Nat))) (some (.ref h.length)) (some (.int (i : Nat))) r := ⟨_, rfl⟩
  rw [← hτ]
  have v0 : eVar 0 τ k0 = .ok (rowsT G) k0 := by rw [hτ]; rfl
  have v3 : eVar 3 τ k0 = .ok (.int (W : Nat)) k0 := by rw [hτ]; rfl
  have v4 : eVar 4 τ k0 = .ok (.int (H : Nat)) k0 := by rw [hτ]; rfl
  have v5 : eVar 5 τ k0 = .ok (.tup [.int (sx a), .int (sy a)]) k0 := by rw [hτ]; rfl
  have v6 : eVar 6 τ k0 = .ok (.int (y : Nat)) k0 := by rw [hτ]; rfl
  have v9 : eVar 9 τ k0 = .ok (.int (i : Nat)) k0 := by rw [hτ]; rfl
  have A1 := (op_ok (b := TL.bMul) v9 ((op_ok (b := TL.bIx) v5 (rfl : eK (.int 1) τ k0 = .ok (.int 1) k0)).trans (i1 _ _ _))).trans (mul_small _ m1)
  have A2 := (op_ok (b := TL.bAdd) v6 A1).trans (a1 _ _ _)
  have A3 := (call_ok (b := fInt) (cons_ok A2 (rfl : aNil τ k0 = .ok [] k0))).trans (fInt_int _ _)
  have A4 := (op_ok (b := TL.bMod) A3 v4).trans (mod_ok (by omega) _)
  have A5 := (op_ok (b := TL.bIx) v0 A4).trans (ixT_row D _ _)
  refine (seq_nx (set_ok (i := 10) A5)).trans ?_
  obtain ⟨τ2, hτ2⟩ : ∃ τ2, τ2 = τ.set 10 (some (.str (rowS (rowAt G H ((y : Int) + (i : Int) * sy a))))) := ⟨_, rfl⟩
  rw [← hτ2]
  have w3 : eVar 3 τ2 k0 = .ok (.int (W : Nat)) k0 := by rw [hτ2, hτ]; rfl
  have w5 : eVar 5 τ2 k0 = .ok (.tup [.int (sx a), .int (sy a)]) k0 := by rw [hτ2, hτ]; rfl
  have w7 : eVar 7 τ2 k0 = .ok (.int (x : Nat)) k0 := by rw [hτ2, hτ]; rfl
  have w8 : eVar 8 τ2 k0 = .ok (.ref h.length) k0 := by rw [hτ2, hτ]; rfl
  have w9 : eVar 9 τ2 k0 = .ok (.int (i : Nat)) k0 := by rw [hτ2, hτ]; rfl
  have w10 : eVar 10 τ2 k0 = .ok (.str (rowS (rowAt G H ((y : Int) + (i : Int) * sy a)))) k0 := by rw [hτ2, hτ]; rfl
  have B1 := (op_ok (b := TL.bMul) w9 ((op_ok (b := TL.bIx) w5 (rfl : eK (.int 0) τ2 k0 = .ok (.int 0) k0)).trans (i0 _ _ _))).trans (mul_small _ m2)
  have B2 := (op_ok (b := TL.bAdd) w7 B1).trans (a1 _ _ _)
  have B3 := (call_ok (b := fInt) (cons_ok B2 (rfl : aNil τ2 k0 = .ok [] k0))).trans (fInt_int _ _)
  have B4 := (op_ok (b := TL.bMod) B3 w3).trans (mod_ok (by omega) _)
  have B5 := (op_ok (b := TL.bIx) w10 B4).trans (ixT_sign D _ _ _)
  have B6 := cons_ok B5 (rfl : aNil τ2 k0 = .ok [] k0)
  have tt : tyT k0 "list" (.ref h.length) = true := by unfold tyT; simp only [ty]; rfl
  have B7 : eMt "list" mAppend (eVar 8) (aCons (eOp TL.bIx (eVar 10) (eOp TL.bMod (eCall fInt (aCons (eOp TL.bAdd (eVar 7) (eOp TL.bMul (eVar 9) (eOp TL.bIx (eVar 5) (eK (.int 0))))) aNil)) (eVar 3))) aNil) τ2 k0 = .ok .non k1 := by
    unfold eMt
    simp only [w8, tt, if_true, B6]
    exact ap
  refine (expr_ok B7).trans ?_
  rw [hτ2, hτ]
  rfl
/-- a start without a pair in its first cells -/
def Free (G : List (List Nat)) (W H a : Nat) (N : Nat) (x y : Int) : Prop := ∀ k, k < N → al G W H a x y k ≠ a
theorem mem_als {a : Nat} {x y : Int} {N : Nat} : a ∈ als G W H a x y N ↔ ¬ Free G W H a N x y := by
  unfold als Free
  simp only [List.mem_map, List.mem_range]
  constructor
  · rintro ⟨k, h1, h2⟩ z
    exact z k h1 h2
  · intro z
    apply Classical.byContradiction
    intro q
    exact z fun k hk e => q ⟨k, hk, e⟩
theorem sub_int (p q : Int) (h : VH) : TL.bSub (.int p) (.int q) h = .ok (.int (p - q)) h := rfl
theorem min2_int (p q : Int) (h : VH) : fMin2 [.int p, .int q] h = .ok (.int (if q < p then q else p)) h := rfl
theorem cnt_if {n : Int} (hn : 0 < n) : (if (W : Int) * H < n - 1 then (W : Int) * H else n - 1) = ((cnt W H n : Nat) : Int) := by
  unfold cnt
  rw [Int.natCast_mul]
  have p0 : 0 ≤ (W : Int) * (H : Int) := Int.mul_nonneg (by omega) (by omega)
  revert p0
  generalize (W : Int) * (H : Int) = p
  intro p0
  split <;> omega
theorem body_ok (D : Dim G W H) {a : Nat} {n : Int} (hn : 0 < n) (y x : Nat) (s k r : Option T) (h : VH) : ∃ (k' r' : Option T) (h' : VH), (∃ R, h' = h ++ R) ∧ ((Free G W H a (cnt W H n) x y ∧ fbody (fst' G W H a n (some (.int (y : Nat))) (some (.int (x : Nat))) s k r) h = .rt (.bl true) h') ∨
    (¬ Free G W H a (cnt W H n) x y ∧ fbody (fst' G W H a n (some (.int (y : Nat))) (some (.int (x : Nat))) s k r) h = .nx (fst' G W H a n (some (.int (y : Nat))) (some (.int (x : Nat))) (some (.ref h.length)) k' r') h')) := by
  have w1 := D.w1
  have h1 := D.h1
  have wh : W * H ≤ 144 := Nat.le_trans (Nat.mul_le_mul D.w1 D.h1) (by omega)
  have cl := cnt_le (W := W) (H := H) n
  have cm : cMul (W : Int) (H : Int) = true := cm_l (by omega) (by omega)
  have s1 : (sSet 8 (eH (aLim aNil))) (fst' G W H a n (some (.int (y : Nat))) (some (.int (x : Nat))) s k r) h = .nx (fst' G W H a n (some (.int (y : Nat))) (some (.int (x : Nat))) (some (.ref h.length)) k r) (h ++ [.lst []]) := rfl
  have mi : fI (fst' G W H a n (some (.int (y : Nat))) (some (.int (x : Nat))) (some (.ref h.length)) k r) (h ++ [.lst []]) = .ok (fun _ => some (rangeT 0 (cnt W H n))) (h ++ [.lst []]) := by
    refine rng_ok ?_ (by omega)
    have mn : (if (W : Int) * H < n - 1 then (W : Int) * H else n - 1) = ((cnt W H n : Nat) : Int) := cnt_if hn
    obtain ⟨τ, hτ⟩ : ∃ τ, τ = fst' G W H a n (some (.int (y : Nat))) (some (.int (x : Nat))) (some (.ref h.length)) k r := ⟨_, rfl⟩
    rw [← hτ]
    have v2 : eVar 2 τ (h ++ [.lst []]) = .ok (.int n) (h ++ [.lst []]) := by rw [hτ]; rfl
    have v3 : eVar 3 τ (h ++ [.lst []]) = .ok (.int (W : Nat)) (h ++ [.lst []]) := by rw [hτ]; rfl
    have v4 : eVar 4 τ (h ++ [.lst []]) = .ok (.int (H : Nat)) (h ++ [.lst []]) := by rw [hτ]; rfl
    have A1 := (op_ok (b := TL.bSub) v2 (rfl : eK (.int 1) τ (h ++ [.lst []]) = .ok (.int 1) _)).trans (sub_int _ _ _)
    have A2 := (op_ok (b := TL.bMul) v3 v4).trans (mul_small _ cm)
    have A3 := (call_ok (b := fMin2) (cons_ok A1 (cons_ok A2 (rfl : aNil τ (h ++ [.lst []]) = .ok [] _)))).trans (min2_int _ _ _)
    rw [mn] at A3
    exact cons_ok A3 rfl
  obtain ⟨τ', h', q1, q2⟩ := sFor_inv (g := mgName 9) (body := sSeq fb1 fb2) (ts := rangeT 0 (cnt W H n)) (fun i τ h' => ∃ (k r : Option T), τ = fst' G W H a n (some (.int (y : Nat))) (some (.int (x : Nat))) (some (.ref h.length)) k r ∧ h' = h ++ [.lst ((als G W H a x y i).map sg)]) mi ⟨k, r, rfl, rfl⟩ (fun _ _ _ _ => rfl) (fun i hi τ h' J => by
    obtain ⟨k, r, rfl, rfl⟩ := J
    obtain ⟨hi2, ei⟩ := range_at hi
    rw [ei, Int.zero_add]
    exact ⟨fst' G W H a n (some (.int (y : Nat))) (some (.int (x : Nat))) (some (.ref h.length)) (some (.int (i : Nat))) r, _, _, _, rfl, .inl (fb_ok D n y x i r h (by omega)), some (.int (i : Nat)), _, rfl, rfl⟩)
  rw [range_len] at q2
  obtain ⟨k', r', rfl, rfl⟩ := q2
  have ty : (h ++ [VO.lst ((als G W H a x y (cnt W H n)).map sg)])[h.length]? = some (.lst ((als G W H a x y (cnt W H n)).map sg)) := by simp
  have ni := nin_signs a (als G W H a x y (cnt W H n)) ty
  have tN : fN (fst' G W H a n (some (.int (y : Nat))) (some (.int (x : Nat))) (some (.ref h.length)) k' r') (h ++ [.lst ((als G W H a x y (cnt W H n)).map sg)]) = .ok (!decide (a ∈ als G W H a x y (cnt W H n))) (h ++ [.lst ((als G W H a x y (cnt W H n)).map sg)]) := test_ok ((op_ok rfl rfl).trans ni)
  refine ⟨k', r', h ++ [.lst ((als G W H a x y (cnt W H n)).map sg)], ⟨_, rfl⟩, ?_⟩
  by_cases q : Free G W H a (cnt W H n) x y
  · refine .inl ⟨q, (seq_nx s1).trans ((seq_nx q1).trans ?_)⟩
    rw [decide_eq_false (fun z => mem_als.mp z q)] at tN
    exact (if_t tN).trans rfl
  · refine .inr ⟨q, (seq_nx s1).trans ((seq_nx q1).trans ?_)⟩
    rw [decide_eq_true (mem_als.mpr q)] at tN
    exact (if_f tN).trans rfl
end
end K58

set_option Elab.async false
set_option linter.all false
set_option maxRecDepth 100000
set_option maxHeartbeats 4000000
namespace K58
open K33
open PySem L2 TL KG
section
variable {G G' : List (List Nat)} {W H : Nat}
/-- some start is free of pairs -/
def Run (G : List (List Nat)) (W H a : Nat) (n : Int) : Prop := ∃ y x : Nat, y < H ∧ x < W ∧ Free G W H a (cnt W H n) x y
/-- a def whose new things are forgotten -/
theorem cut_bool {m : List T → VH → Res T} {ts : List T} {h h' : VH} {b : Bool} (e : m ts h = .ok (.bl b) h') (hp : ∃ R, h' = h ++ R) (hl : h.all (VO.lowR h.length) = true) : cutM m ts h = .ok (.bl b) h := by
  obtain ⟨R, rfl⟩ := hp
  have e5 : (h ++ R).take h.length = h := by simp
  unfold cutM
  rw [e]
  simp only [e5, hl, if_true]
  rfl
theorem run_ok (D : Dim G W H) {a : Nat} (ha : a < 10) (h5 : a ≠ 5) (h0 : a ≠ 0) {n : Int} (hn : 0 < n) {h : VH} (hf : h.all (VO.lowR h.length) = true) : ∃ b, m_law_run_free [rowsT G, sg a, .int n] h = .ok (.bl b) h ∧ (b = true ↔ Run G W H a n) := by
  obtain ⟨r0, l0, l1⟩ := first_len D h
  have s1 : f1 (startT 11 [rowsT G, sg a, .int n]) h = .nx (fst' G W H a n none none none none none) h := by
    have et : startT 11 [rowsT G, sg a, .int n] = [some (rowsT G), some (sg a), some (.int n), none, none, none, none, none, none, none, none] := rfl
    rw [et]
    simp only [f1, sPar3, aCons, aNil, eCall, eOp, eVar, eK, List.getElem?_cons_succ, List.getElem?_cons_zero, l0, l1, rows_len D, ahead_ok ha h5 h0 hf, List.set_cons_succ, List.set_cons_zero]
  have main := sFor_or (mi := iRange1 (aCons (eVar 4) aNil)) (g := mgName 6) (body := sFor (iRange1 (aCons (eVar 3) aNil)) (mgName 7) fbody) (τ := fst' G W H a n none none none none none) (h := h) (h1 := h) (rd := fun _ => some (rangeT 0 H)) (ts := rangeT 0 H)
    (fun i τ h' => (∃ (y x s k r : Option T), τ = fst' G W H a n y x s k r) ∧ (∃ R, h' = h ++ R) ∧ ∀ y x : Nat, y < i → x < W → ¬ Free G W H a (cnt W H n) x y)
    (fun t h' => t = .bl true ∧ (∃ R, h' = h ++ R) ∧ Run G W H a n) (rng_ok rfl (by have := D.h1; omega)) ⟨⟨_, _, _, _, _, rfl⟩, ⟨[], by simp⟩, fun y x hy => by omega⟩ (fun _ _ _ _ => rfl) (fun y hy τ h' J => by
      obtain ⟨⟨y0, x0, s0, k0, r0, rfl⟩, ⟨R, rfl⟩, no⟩ := J
      obtain ⟨hy2, ey⟩ := range_at hy
      rw [ey, Int.zero_add]
      refine ⟨fst' G W H a n (some (.int (y : Nat))) x0 s0 k0 r0, _, rfl, ?_⟩
      have inner := sFor_or (mi := iRange1 (aCons (eVar 3) aNil)) (g := mgName 7) (body := fbody) (τ := fst' G W H a n (some (.int (y : Nat))) x0 s0 k0 r0) (h := h ++ R) (h1 := h ++ R) (rd := fun _ => some (rangeT 0 W)) (ts := rangeT 0 W)
        (fun j τ h' => (∃ (x s k r : Option T), τ = fst' G W H a n (some (.int (y : Nat))) x s k r) ∧ (∃ R, h' = h ++ R) ∧ ∀ x : Nat, x < j → ¬ Free G W H a (cnt W H n) x y)
        (fun t h' => t = .bl true ∧ (∃ R, h' = h ++ R) ∧ Run G W H a n) (rng_ok rfl (by have := D.w1; omega)) ⟨⟨_, _, _, _, rfl⟩, ⟨R, rfl⟩, fun x hx => by omega⟩ (fun _ _ _ _ => rfl) (fun x hx τ h' J => by
          obtain ⟨⟨x1, s1, k1, r1, rfl⟩, ⟨R1, rfl⟩, no1⟩ := J
          obtain ⟨hx2, ex⟩ := range_at hx
          rw [ex, Int.zero_add]
          refine ⟨fst' G W H a n (some (.int (y : Nat))) (some (.int (x : Nat))) s1 k1 r1, _, rfl, ?_⟩
          obtain ⟨k', r', h2, ⟨R2, e2⟩, z⟩ := body_ok D (a := a) hn y x s1 k1 r1 (h ++ R1)
          have gr : ∃ R, h2 = h ++ R := ⟨R1 ++ R2, by rw [e2, List.append_assoc]⟩
          rcases z with ⟨q, z⟩ | ⟨q, z⟩
          · exact .inr ⟨_, _, z, rfl, gr, y, x, hy2, hx2, q⟩
          · refine .inl ⟨_, _, z, ⟨_, _, _, _, rfl⟩, gr, fun x' hx' => ?_⟩
            by_cases c : x' = x
            · rw [c]; exact q
            · exact no1 x' (by omega))
      rw [range_len] at inner
      rcases inner with ⟨τ2, h2, z, ⟨x1, s1, k1, r1, rfl⟩, gr, no1⟩ | ⟨t, h2, z, rfl, gr, q⟩
      · refine .inl ⟨_, _, z, ⟨_, _, _, _, _, rfl⟩, gr, fun y' x' hy' hx' => ?_⟩
        by_cases c : y' = y
        · rw [c]; exact no1 x' hx'
        · exact no y' x' (by omega) hx'
      · exact .inr ⟨_, _, z, rfl, gr, q⟩)
  rw [range_len] at main
  rcases main with ⟨τ2, h2, z, ⟨y1, x1, s1', k1, r1, rfl⟩, gr, no⟩ | ⟨t, h2, z, rfl, gr, q⟩
  · refine ⟨false, cut_bool (m := defM 11 3 s_law_run_free) (h' := h2) ?_ gr hf, ⟨fun z => Bool.noConfusion z, fun ⟨y, x, hy, hx, q⟩ => (no y x hy hx q).elim⟩⟩
    rw [run_eq]
    exact defM_rt rfl ((seq_nx s1).trans ((seq_nx z).trans (ret_ok rfl)))
  · refine ⟨true, cut_bool (m := defM 11 3 s_law_run_free) (h' := h2) ?_ gr hf, ⟨fun _ => q, fun _ => rfl⟩⟩
    rw [run_eq]
    exact defM_rt rfl ((seq_nx s1).trans (seq_rt z))
end
end K58

set_option Elab.async false
set_option linter.all false
set_option maxRecDepth 100000
set_option maxHeartbeats 4000000
namespace K58
open K33
open PySem L2 TL KG
section
variable {G G' : List (List Nat)} {W H : Nat}
theorem str_len (D : Dim G W H) (y : Int) (h : VH) : fLen [.str (rowS (rowAt G H y))] h = .ok (.int (W : Nat)) h := by
  have e3 : (rowS (rowAt G H y)).length = W := by rw [rowS_len, D.row _ (D.rowAt_mem y)]
  have := D.w1
  simp [fLen, e3]
theorem sign_ok (D : Dim G W H) (x y : Int) (h : VH) : m_sign_at [rowsT G, .int x, .int y] h = .ok (sg (cell G W H x y)) h := by
  have h0 := D.h0
  have w0 := D.w0
  have s1 : (sSet 3 (eOp TL.bIx (eVar 0) (eOp TL.bMod (eVar 2) (eCall fLen (aCons (eVar 0) aNil))))) (startT 4 [rowsT G, .int x, .int y]) h = .nx [some (rowsT G), some (.int x), some (.int y), some (.str (rowS (rowAt G H y)))] h := by
    refine (set_ok (i := 3) ((op_ok (b := TL.bIx) rfl ((op_ok (b := TL.bMod) rfl ((call_ok (ts := [rowsT G]) rfl).trans (rows_len D h))).trans (mod_ok (by omega) h))).trans (ixT_row D y h))).trans ?_
    rfl
  refine defM_rt rfl ((seq_nx s1).trans (ret_ok ?_))
  exact (op_ok (b := TL.bIx) rfl ((op_ok (b := TL.bMod) rfl ((call_ok (ts := [.str (rowS (rowAt G H y))]) rfl).trans (str_len D y h))).trans (mod_ok (by omega) h))).trans (ixT_sign D x y h)
theorem steps_eq : kv_STEPS = kv_SHIFTS := rfl
theorem add_i (p q : Int) (hh : VH) : TL.bAdd (.int p) (.int q) hh = .ok (.int (p + q)) hh := rfl
theorem eq_int (p q : Int) (h : VH) : TL.bEq (.int p) (.int q) h = .ok (.bl (decide (p = q))) h := by
  unfold TL.bEq bEqG
  simp only [dat_int, PyData.eqv]
  refine congrArg (fun z => Res.ok (T.bl z) h) ?_
  by_cases c : p = q <;> simp [c]
theorem mutual_ok (D : Dim G W H) (M : Mut G W H) (x y : Int) (h : VH) : m_is_mutual_at [rowsT G, .int x, .int y] h = .ok (.bl true) h := by
  obtain ⟨d, hd⟩ : ∃ d, d = cell G W H x y := ⟨_, rfl⟩
  have d10 : d < 10 := by rw [hd]; exact M.lt x y
  have d5 : d ≠ 5 := by rw [hd]; exact M.n5 x y
  have s1 : (sSet 3 (eCall m_sign_at (aCons (eVar 0) (aCons (eVar 1) (aCons (eVar 2) aNil))))) (startT 6 [rowsT G, .int x, .int y]) h = .nx [some (rowsT G), some (.int x), some (.int y), some (sg d), none, none] h := by
    refine (set_ok (i := 3) ((call_ok (ts := [rowsT G, .int x, .int y]) rfl).trans (sign_ok D x y h))).trans ?_
    rw [← hd]
    rfl
  have t1 : bTest (eOp TL.bEq (eVar 3) (eK (.str "0"))) [some (rowsT G), some (.int x), some (.int y), some (sg d), none, none] h = .ok (decide (d = 0)) h := test_ok ((op_ok rfl rfl).trans (eq_zero d h))
  by_cases z : d = 0
  · rw [decide_eq_true z] at t1
    exact defM_rt rfl ((seq_nx s1).trans (seq_rt ((if_t t1).trans (ret_ok rfl))))
  · rw [decide_eq_false z] at t1
    have sh := sh_dig d d10 d5 z
    rw [← steps_eq] at sh
    have m := M.mate x y (by rw [← hd]; exact z)
    rw [← hd] at m
    have s3 : (sAsg (eIxK kv_STEPS (eVar 3)) (mgTup 2 (mgsCons (mgName 4) (mgsCons (mgName 5) mgsNil)))) [some (rowsT G), some (.int x), some (.int y), some (sg d), none, none] h = .nx [some (rowsT G), some (.int x), some (.int y), some (sg d), some (.int (sx d)), some (.int (sy d))] h := by
      simp only [sAsg, eIxK, eVar, List.getElem?_cons_succ, List.getElem?_cons_zero, sh, mgTup, mgsCons, mgsNil, mgName, List.length_cons, List.length_nil, Nat.reduceAdd, if_true, List.set_cons_succ, List.set_cons_zero]
    obtain ⟨τ, hτ⟩ : ∃ τ, τ = [some (rowsT G), some (T.int x), some (.int y), some (sg d), some (.int (sx d)), some (.int (sy d))] := ⟨_, rfl⟩
    rw [← hτ] at s3
    have v0 : eVar 0 τ h = .ok (rowsT G) h := by rw [hτ]; rfl
    have v1 : eVar 1 τ h = .ok (.int x) h := by rw [hτ]; rfl
    have v2 : eVar 2 τ h = .ok (.int y) h := by rw [hτ]; rfl
    have v3 : eVar 3 τ h = .ok (sg d) h := by rw [hτ]; rfl
    have v4 : eVar 4 τ h = .ok (.int (sx d)) h := by rw [hτ]; rfl
    have v5 : eVar 5 τ h = .ok (.int (sy d)) h := by rw [hτ]; rfl
    have nil : aNil τ h = .ok [] h := rfl
    have q10 := M.lt (x + sx d) (y + sy d)
    have q5 := M.n5 (x + sx d) (y + sy d)
    have A1 := (call_ok (b := m_sign_at) (cons_ok v0 (cons_ok ((op_ok (b := TL.bAdd) v1 v4).trans (add_i _ _ _)) (cons_ok ((op_ok (b := TL.bAdd) v2 v5).trans (add_i _ _ _)) nil)))).trans (sign_ok D _ _ h)
    have A2 := (call_ok (b := fInt) (cons_ok A1 nil)).trans (fInt_dig h _ q10 q5)
    have A3 := (call_ok (b := fInt) (cons_ok v3 nil)).trans (fInt_dig h d d10 d5)
    have A4 := (op_ok (b := TL.bSub) (rfl : eK (.int 10) τ h = .ok (.int 10) h) A3).trans (sub_int _ _ _)
    have A5 := (op_ok (b := TL.bEq) A2 A4).trans (eq_int _ _ _)
    rw [decide_eq_true (by omega)] at A5
    exact defM_rt rfl ((seq_nx s1).trans ((seq_nx ((if_f t1).trans rfl)).trans ((seq_nx s3).trans (ret_ok A5))))
theorem step_in {d : Nat} (h10 : d < 10) (h5 : d ≠ 5) (h0 : d ≠ 0) : (kv_STEPS.lookup (dig d)).isSome = true := by rw [steps_eq, sh_dig d h10 h5 h0]; rfl
theorem inner_st {r : List Nat} (hr : ∀ d ∈ r, d < 10) (h5 : ∀ d ∈ r, d ≠ 5) (hl : r.length ≤ 12) (a b c : Option T) (h : VH) :
    mLc (iSeqC (eVar 2)) [3] (mgName 3) bYes (eOr (eOp TL.bEq (eVar 3) (eK (.str "0"))) (eInK false kv_STEPS (eVar 3))) [a, b, some (.str (rowS r)), c] h = .ok (r.map fun _ => .bl true) h := by
  have z := mLc_map (mi := iSeqC (eVar 2)) (ws := [3]) (g := mgName 3) (e := eOr (eOp TL.bEq (eVar 3) (eK (.str "0"))) (eInK false kv_STEPS (eVar 3))) (τ := [a, b, some (.str (rowS r)), c]) (h := h) (rd := fun h => seqS h (.str (rowS r))) (ts := r.map fun d => .str (dig d))
    (by simp [iSeqC, eVar, walkable, seqS]) (by simp [seqS, signs_row]) (by rw [List.length_map]; omega) (fun _ => .bl true) (fun t ht => by
      obtain ⟨d, hd, rfl⟩ := List.mem_map.mp ht
      refine ⟨_, rfl, ?_⟩
      have e1 := eq_zero d h
      by_cases q : d = 0
      · rw [decide_eq_true q] at e1
        simp only [eOr, eOp, eK, eVar, wipeT, List.set_cons_succ, List.set_cons_zero, List.getElem?_cons_succ, List.getElem?_cons_zero, e1]
      · rw [decide_eq_false q] at e1
        simp only [eOr, eOp, eK, eVar, wipeT, List.set_cons_succ, List.set_cons_zero, List.getElem?_cons_succ, List.getElem?_cons_zero, e1, eInK, step_in (hr d hd) (h5 d hd) q]
        rfl)
  rw [z, List.map_map]
  rfl
theorem rowsTold_ok (D : Dim G W H) (A : Digs G) (h : VH) : m_rows_told [.str (spell G)] h = .ok (rowsT G) h := by
  have es := split_spell D
  have hl : G.reverse.length = H := by rw [List.length_reverse, D.len]
  have sh : shortAll (G.reverse.map rowS) = true := by
    unfold shortAll
    rw [List.all_eq_true]
    intro x hx
    obtain ⟨r, hr, rfl⟩ := List.mem_map.mp hx
    have := D.row r (by simpa using hr)
    have := D.w1
    exact decide_eq_true (by rw [rowS_len]; omega)
  have h0 := D.h0
  have h1 := D.h1
  have w0 := D.w0
  have w1 := D.w1
  have ez : (("/" : Str).length == 0) = false := by decide
  have hz : (G.reverse.map rowS).length ≤ 16777216 := by rw [List.length_map, hl]; omega
  have er : (G.reverse.map fun r => T.str (rowS r)).reverse = G.map fun r => T.str (rowS r) := by rw [← List.map_reverse, List.reverse_reverse]
  have hm : (G.reverse.map rowS).map T.str = G.reverse.map fun r => .str (rowS r) := by rw [List.map_map]; rfl
  obtain ⟨r0, l0, l1⟩ := first_len D h
  have s1 : (sSet 1 (eIf (bTest (eIsi (.b "str") (eVar 0))) (eRev (eMt "str" mSplit (eVar 0) (aCons (eK (.str "/")) aNil))) (eL (aLim aNil)))) (startT 4 [.str (spell G)]) h = .nx [some (.str (spell G)), some (rowsT G), none, none] h := by
    have et : startT 4 [.str (spell G)] = [some (.str (spell G)), none, none, none] := rfl
    rw [et]
    simp only [sSet, eIf, bTest, eIsi, tyOf, isiB, eRev, eMt, tyT, mSplit, eVar, eK, aCons, aNil, List.getElem?_cons_zero, List.set_cons_succ, List.set_cons_zero, beq_self_eq_true, Bool.true_or, if_true, es, ez, hz, sh, and_self, hm, TL.listOf, er]
    rfl
  obtain ⟨τ, hτ⟩ : ∃ τ, τ = [some (T.str (spell G)), some (rowsT G), none, none] := ⟨_, rfl⟩
  have v1 : eVar 1 τ h = .ok (rowsT G) h := by rw [hτ]; rfl
  have nil : aNil τ h = .ok [] h := rfl
  have c1 : bLt (.int 0) (.int (H : Nat)) h = .ok (.bl true) h := by simp [bLt, bOrdG]; omega
  have c2 : bLe (.int (H : Nat)) (.int 12) h = .ok (.bl true) h := by simp [bLe, bOrdG]; omega
  have c3 : bLt (.int 0) (.int (W : Nat)) h = .ok (.bl true) h := by simp [bLt, bOrdG]; omega
  have c4 : bLe (.int (W : Nat)) (.int 12) h = .ok (.bl true) h := by simp [bLe, bOrdG]; omega
  have L1 := (call_ok (b := fLen) (cons_ok v1 nil)).trans (rows_len D h)
  have L2' := (call_ok (b := fLen) (cons_ok ((op_ok (b := TL.bIx) v1 (rfl : eK (.int 0) τ h = .ok (.int 0) h)).trans l0) nil)).trans l1
  have ch : ∀ {f : ME} {n : Int}, f τ h = .ok (.int n) h → bLt (.int 0) (.int n) h = .ok (.bl true) h → bLe (.int n) (.int 12) h = .ok (.bl true) h → TL.bNot (bTest (eChain bLt bLe (eK (.int 0)) f (eK (.int 12)))) τ h = .ok false h := fun {f n} e p q => by
    simp only [TL.bNot, bTest, eChain, eK, e, p, q]
    rfl
  have T1 : TL.bOr (TL.bNot (bTest (eChain bLt bLe (eK (.int 0)) (eCall fLen (aCons (eVar 1) aNil)) (eK (.int 12))))) (TL.bNot (bTest (eChain bLt bLe (eK (.int 0)) (eCall fLen (aCons (eOp TL.bIx (eVar 1) (eK (.int 0))) aNil)) (eK (.int 12))))) τ h = .ok false h := by
    unfold TL.bOr
    rw [ch L1 c1 c2]
    exact ch L2' c3 c4
  have outer : mLc (iSeqC (eVar 1)) [2] (mgName 2) bYes (eAnd (eOp TL.bEq (eCall fLen (aCons (eVar 2) aNil)) (eCall fLen (aCons (eOp TL.bIx (eVar 1) (eK (.int 0))) aNil))) (eCall fAll (aCons (eL (mLc (iSeqC (eVar 2)) [3] (mgName 3) bYes (eOr (eOp TL.bEq (eVar 3) (eK (.str "0"))) (eInK false kv_STEPS (eVar 3))))) aNil))) τ h = .ok (G.map fun _ => .bl true) h := by
    rw [hτ]
    have z := mLc_map (mi := iSeqC (eVar 1)) (ws := [2]) (g := mgName 2) (e := eAnd (eOp TL.bEq (eCall fLen (aCons (eVar 2) aNil)) (eCall fLen (aCons (eOp TL.bIx (eVar 1) (eK (.int 0))) aNil))) (eCall fAll (aCons (eL (mLc (iSeqC (eVar 2)) [3] (mgName 3) bYes (eOr (eOp TL.bEq (eVar 3) (eK (.str "0"))) (eInK false kv_STEPS (eVar 3))))) aNil)))
      (τ := [some (T.str (spell G)), some (rowsT G), none, none]) (h := h) (rd := fun h => seqS h (rowsT G)) (ts := G.map fun r => .str (rowS r))
      rfl rfl (by rw [List.length_map, D.len]; omega) (fun _ => .bl true) (fun t ht => by
        obtain ⟨r, hr, rfl⟩ := List.mem_map.mp ht
        have el : (rowS r).length = W := by rw [rowS_len, D.row r hr]
        refine ⟨[some (T.str (spell G)), some (rowsT G), some (.str (rowS r)), none], rfl, ?_⟩
        have i := inner_st (A.lt r hr) (A.n5 r hr) (by rw [D.row r hr]; exact D.w1) (some (T.str (spell G))) (some (rowsT G)) none h
        have fl : fLen [.str (rowS r)] h = .ok (.int (W : Nat)) h := by
          have := D.w1
          simp [fLen, el]
        have ei := eq_int (W : Nat) (W : Nat) h
        rw [decide_eq_true rfl] at ei
        simp only [eAnd, eOp, eCall, aCons, aNil, eL, eK, eVar, List.getElem?_cons_succ, List.getElem?_cons_zero, fl, l0, l1, ei, i, all_bl])
    rw [z, List.map_map]
    rfl
  have T2 : TL.bNot (bTest (eCall fAll (aCons (eL (mLc (iSeqC (eVar 1)) [2] (mgName 2) bYes (eAnd (eOp TL.bEq (eCall fLen (aCons (eVar 2) aNil)) (eCall fLen (aCons (eOp TL.bIx (eVar 1) (eK (.int 0))) aNil))) (eCall fAll (aCons (eL (mLc (iSeqC (eVar 2)) [3] (mgName 3) bYes (eOr (eOp TL.bEq (eVar 3) (eK (.str "0"))) (eInK false kv_STEPS (eVar 3))))) aNil))))) aNil))) τ h = .ok false h := by
    have z := (call_ok (b := fAll) (cons_ok (eL_ok outer) nil)).trans (all_bl G h)
    unfold TL.bNot
    rw [test_ok z]
    rfl
  rw [← hτ] at s1
  exact defM_rt rfl ((seq_nx s1).trans ((seq_nx ((if_f T1).trans rfl)).trans ((seq_nx ((if_f T2).trans rfl)).trans (ret_ok v1))))
theorem told_tile (D : Dim G W H) (M : Mut G W H) (h : VH) : m_tile_told [.str (spell G)] h = .ok (rowsT G) h := by
  have A := mut_digs D M
  have h1 := D.h1
  have w1 := D.w1
  have s1 : (sSet 1 (eCall m_rows_told (aCons (eVar 0) aNil))) (startT 5 [.str (spell G)]) h = .nx [some (.str (spell G)), some (rowsT G), none, none, none] h := by
    refine (set_ok (i := 1) ((call_ok (ts := [.str (spell G)]) rfl).trans (rowsTold_ok D A h))).trans ?_
    rfl
  obtain ⟨r0, l0, l1⟩ := first_len D h
  have t1 : bTest (eOp bIs (eVar 1) (eK .non)) [some (.str (spell G)), some (rowsT G), none, none, none] h = .ok false h := rfl
  have nil : ∀ τ, aNil τ h = .ok [] h := fun _ => rfl
  have inner : ∀ (y : Nat) (c : Option T), mLc (iRange1 (aCons (eCall fLen (aCons (eOp TL.bIx (eVar 1) (eK (.int 0))) aNil)) aNil)) [4] (mgName 4) bYes (eCall m_is_mutual_at (aCons (eVar 1) (aCons (eVar 4) (aCons (eVar 3) aNil)))) [some (.str (spell G)), some (rowsT G), none, some (.int (y : Nat)), c] h = .ok ((List.range W).map fun _ => .bl true) h := by
    intro y c
    have L2' := (call_ok (b := fLen) (cons_ok ((op_ok (b := TL.bIx) (rfl : eVar 1 [some (.str (spell G)), some (rowsT G), none, some (.int (y : Nat)), c] h = .ok (rowsT G) h) (rfl : eK (.int 0) [some (.str (spell G)), some (rowsT G), none, some (.int (y : Nat)), c] h = .ok (.int 0) h)).trans l0) (nil _))).trans l1
    have z := mLc_map (mi := iRange1 (aCons (eCall fLen (aCons (eOp TL.bIx (eVar 1) (eK (.int 0))) aNil)) aNil)) (ws := [4]) (g := mgName 4) (e := eCall m_is_mutual_at (aCons (eVar 1) (aCons (eVar 4) (aCons (eVar 3) aNil)))) (τ := [some (.str (spell G)), some (rowsT G), none, some (.int (y : Nat)), c]) (h := h) (rd := fun _ => some (rangeT 0 W)) (ts := rangeT 0 W)
      (rng_ok (cons_ok L2' rfl) (by omega)) rfl (by rw [range_len]; omega) (fun _ => .bl true) (fun t ht => by
        obtain ⟨i, hi, rfl⟩ := List.getElem_of_mem ht
        obtain ⟨hi2, ei⟩ := range_at hi
        rw [ei, Int.zero_add]
        exact ⟨[some (.str (spell G)), some (rowsT G), none, some (.int (y : Nat)), some (.int (i : Nat))], rfl, (call_ok (ts := [rowsT G, .int (i : Nat), .int (y : Nat)]) rfl).trans (mutual_ok D M _ _ h)⟩)
    rw [z]
    unfold rangeT
    rw [List.map_map]
    rfl
  have s3 : (sSet 2 (eL (mLc (iRange1 (aCons (eCall fLen (aCons (eVar 1) aNil)) aNil)) [3] (mgName 3) bYes (eCall fAll (aCons (eL (mLc (iRange1 (aCons (eCall fLen (aCons (eOp TL.bIx (eVar 1) (eK (.int 0))) aNil)) aNil)) [4] (mgName 4) bYes (eCall m_is_mutual_at (aCons (eVar 1) (aCons (eVar 4) (aCons (eVar 3) aNil)))))) aNil))))) [some (.str (spell G)), some (rowsT G), none, none, none] h = .nx [some (.str (spell G)), some (rowsT G), some (.lst ((List.range H).map fun _ => .bl true)), none, none] h := by
    have L1 := (call_ok (b := fLen) (cons_ok (rfl : eVar 1 [some (.str (spell G)), some (rowsT G), none, none, none] h = .ok (rowsT G) h) (nil _))).trans (rows_len D h)
    have z := mLc_map (mi := iRange1 (aCons (eCall fLen (aCons (eVar 1) aNil)) aNil)) (ws := [3]) (g := mgName 3) (e := eCall fAll (aCons (eL (mLc (iRange1 (aCons (eCall fLen (aCons (eOp TL.bIx (eVar 1) (eK (.int 0))) aNil)) aNil)) [4] (mgName 4) bYes (eCall m_is_mutual_at (aCons (eVar 1) (aCons (eVar 4) (aCons (eVar 3) aNil)))))) aNil)) (τ := [some (.str (spell G)), some (rowsT G), none, none, none]) (h := h) (rd := fun _ => some (rangeT 0 H)) (ts := rangeT 0 H)
      (rng_ok (cons_ok L1 rfl) (by omega)) rfl (by rw [range_len]; omega) (fun _ => .bl true) (fun t ht => by
        obtain ⟨i, hi, rfl⟩ := List.getElem_of_mem ht
        obtain ⟨hi2, ei⟩ := range_at hi
        rw [ei, Int.zero_add]
        exact ⟨[some (.str (spell G)), some (rowsT G), none, some (.int (i : Nat)), none], rfl, (call_ok (cons_ok (eL_ok (inner i none)) rfl)).trans (all_bl _ h)⟩)
    refine (set_ok (i := 2) (eL_ok z)).trans ?_
    unfold rangeT
    rw [List.map_map]
    rfl
  have t2 : bTest (eCall fAll (aCons (eVar 2) aNil)) [some (.str (spell G)), some (rowsT G), some (.lst ((List.range H).map fun _ => .bl true)), none, none] h = .ok true h := test_ok ((call_ok (ts := [.lst ((List.range H).map fun _ => .bl true)]) rfl).trans (all_bl _ h))
  refine defM_rt rfl ((seq_nx s1).trans ((seq_nx ((if_f t1).trans rfl)).trans ((seq_nx s3).trans (ret_ok ?_))))
  unfold eIf
  rw [t2]
  rfl
end
end K58

set_option Elab.async false
set_option linter.all false
set_option maxRecDepth 100000
set_option maxHeartbeats 4000000
namespace K58
open K33
open PySem L2 TL KG
section
variable {G G' : List (List Nat)} {W H : Nat}
theorem figs_eq : kv_FIGURE_OF = kv_AHEAD := rfl
theorem Way.fig {w : Str} {a : Nat} (y : Way w a) : kv_FIGURE_OF.lookup w = some (sg a) := by rw [figs_eq]; exact y.at_
theorem eq_sg (d a : Nat) (h : VH) : TL.bEq (sg d) (sg a) h = .ok (.bl (decide (d = a))) h := by
  unfold TL.bEq bEqG
  simp only [dat_str]
  rw [dig_eqv]
/-- where the first pair of a run lies -/
def First (G : List (List Nat)) (W H a : Nat) (x y : Int) : Option Nat → Prop
  | none => ∀ k, k < W * H → al G W H a x y k ≠ a
  | some k => k < W * H ∧ al G W H a x y k = a ∧ ∀ j, j < k → al G W H a x y j ≠ a
def firstT : Option Nat → T
  | none => .non
  | some k => .int ((k : Int) + 1)
abbrev frst (G : List (List Nat)) (w : Str) (a : Nat) (x y : Int) (k : Option T) : TS_ := [some (rowsT G), some (.str w), some (.int x), some (.int y), some (.int (sx a)), some (.int (sy a)), k]
def ffB : MS := (sIf (bTest (eOp TL.bEq (eCall m_sign_at (aCons (eVar 0) (aCons (eOp TL.bAdd (eVar 2) (eOp TL.bMul (eVar 6) (eVar 4))) (aCons (eOp TL.bAdd (eVar 3) (eOp TL.bMul (eVar 6) (eVar 5))) aNil)))) (eIxK kv_FIGURE_OF (eVar 1)))) (sRet (eOp TL.bAdd (eVar 6) (eK (.int 1)))) sNil)
theorem ffB_ok (D : Dim G W H) {w : Str} {a : Nat} (Y : Way w a) (x y : Int) (i : Nat) (hi : i < 1000) (h : VH) : ffB (frst G w a x y (some (.int (i : Nat)))) h = if al G W H a x y i = a then .rt (.int ((i : Int) + 1)) h else .nx (frst G w a x y (some (.int (i : Nat)))) h := by
  have m1 : cMul (i : Int) (sx a) = true := cm_l (by omega) (by omega)
  have m2 : cMul (i : Int) (sy a) = true := cm_l (by omega) (by omega)
  obtain ⟨τ, hτ⟩ : ∃ τ, τ = frst G w a x y (some (.int (i : Nat))) := ⟨_, rfl⟩
  rw [← hτ]
  have v0 : eVar 0 τ h = .ok (rowsT G) h := by rw [hτ]; rfl
  have v1 : eVar 1 τ h = .ok (.str w) h := by rw [hτ]; rfl
  have v2 : eVar 2 τ h = .ok (.int x) h := by rw [hτ]; rfl
  have v3 : eVar 3 τ h = .ok (.int y) h := by rw [hτ]; rfl
  have v4 : eVar 4 τ h = .ok (.int (sx a)) h := by rw [hτ]; rfl
  have v5 : eVar 5 τ h = .ok (.int (sy a)) h := by rw [hτ]; rfl
  have v6 : eVar 6 τ h = .ok (.int (i : Nat)) h := by rw [hτ]; rfl
  have nil : aNil τ h = .ok [] h := rfl
  have A1 := (op_ok (b := TL.bAdd) v2 ((op_ok (b := TL.bMul) v6 v4).trans (mul_small _ m1))).trans (add_i _ _ _)
  have A2 := (op_ok (b := TL.bAdd) v3 ((op_ok (b := TL.bMul) v6 v5).trans (mul_small _ m2))).trans (add_i _ _ _)
  have A3 := (call_ok (b := m_sign_at) (cons_ok v0 (cons_ok A1 (cons_ok A2 nil)))).trans (sign_ok D _ _ h)
  have A4 : eIxK kv_FIGURE_OF (eVar 1) τ h = .ok (sg a) h := by simp only [eIxK, v1, Way.fig Y]
  have A5 := test_ok ((op_ok (b := TL.bEq) A3 A4).trans (eq_sg _ _ h))
  by_cases q : al G W H a x y i = a
  · rw [if_pos q]
    have q' : cell G W H (x + i * sx a) (y + i * sy a) = a := q
    rw [decide_eq_true q'] at A5
    exact (if_t A5).trans (ret_ok ((op_ok (b := TL.bAdd) v6 (rfl : eK (.int 1) τ h = .ok (.int 1) h)).trans (add_i _ _ _)))
  · rw [if_neg q]
    have q' : ¬ cell G W H (x + i * sx a) (y + i * sy a) = a := q
    rw [decide_eq_false q'] at A5
    exact (if_f A5).trans rfl
theorem from_ok (D : Dim G W H) {w : Str} {a : Nat} (Y : Way w a) (x y : Int) (h : VH) : ∃ o, m_free_from [rowsT G, .str w, .int x, .int y] h = .ok (firstT o) h ∧ First G W H a x y o := by
  have h1 := D.h1
  have w1 := D.w1
  have wh : W * H ≤ 144 := Nat.le_trans (Nat.mul_le_mul D.w1 D.h1) (by omega)
  have cm : cMul (H : Int) (W : Int) = true := cm_l (by omega) (by omega)
  obtain ⟨r0, l0, l1⟩ := first_len D h
  have sh := sh_dig a Y.lt Y.n5 Y.n0
  rw [← steps_eq] at sh
  have s1 : (sAsg (eIxK kv_STEPS (eIxK kv_FIGURE_OF (eVar 1))) (mgTup 2 (mgsCons (mgName 4) (mgsCons (mgName 5) mgsNil)))) (startT 7 [rowsT G, .str w, .int x, .int y]) h = .nx (frst G w a x y none) h := by
    have et : startT 7 [rowsT G, .str w, .int x, .int y] = [some (rowsT G), some (.str w), some (.int x), some (.int y), none, none, none] := rfl
    rw [et]
    simp only [sAsg, eIxK, eVar, List.getElem?_cons_succ, List.getElem?_cons_zero, Way.fig Y, sh, mgTup, mgsCons, mgsNil, mgName, List.length_cons, List.length_nil, Nat.reduceAdd, if_true, List.set_cons_succ, List.set_cons_zero]
  have nil : aNil (frst G w a x y none) h = .ok [] h := rfl
  have v0 : eVar 0 (frst G w a x y none) h = .ok (rowsT G) h := rfl
  have L1 := (call_ok (b := fLen) (cons_ok v0 nil)).trans (rows_len D h)
  have L2' := (call_ok (b := fLen) (cons_ok ((op_ok (b := TL.bIx) v0 (rfl : eK (.int 0) (frst G w a x y none) h = .ok (.int 0) h)).trans l0) nil)).trans l1
  have L3 := (op_ok (b := TL.bMul) L1 L2').trans (mul_small _ cm)
  have en : (H : Int) * (W : Int) = ((W * H : Nat) : Int) := by rw [Int.mul_comm, Int.natCast_mul]
  rw [en] at L3
  have main := sFor_or (mi := iRange1 (aCons (eOp TL.bMul (eCall fLen (aCons (eVar 0) aNil)) (eCall fLen (aCons (eOp TL.bIx (eVar 0) (eK (.int 0))) aNil))) aNil)) (g := mgName 6) (body := ffB) (τ := frst G w a x y none) (h := h) (h1 := h) (rd := fun _ => some (rangeT 0 (W * H))) (ts := rangeT 0 (W * H))
    (fun i τ h' => (∃ k, τ = frst G w a x y k) ∧ h' = h ∧ ∀ j, j < i → al G W H a x y j ≠ a) (fun t h' => h' = h ∧ ∃ k, First G W H a x y (some k) ∧ t = firstT (some k)) (rng_ok (cons_ok L3 rfl) (by omega)) ⟨⟨none, rfl⟩, rfl, fun j hj => by omega⟩ (fun _ _ _ _ => rfl) (fun i hi τ h' J => by
      obtain ⟨⟨k, rfl⟩, rfl, no⟩ := J
      obtain ⟨hi2, ei⟩ := range_at hi
      rw [ei, Int.zero_add]
      refine ⟨frst G w a x y (some (.int (i : Nat))), _, rfl, ?_⟩
      have b := ffB_ok D Y x y i (by omega) h'
      by_cases q : al G W H a x y i = a
      · rw [if_pos q] at b
        exact .inr ⟨_, _, b, rfl, i, ⟨hi2, q, no⟩, rfl⟩
      · rw [if_neg q] at b
        refine .inl ⟨_, _, b, ⟨_, rfl⟩, rfl, fun j hj => ?_⟩
        by_cases c : j = i
        · rw [c]; exact q
        · exact no j (by omega))
  rw [range_len] at main
  rcases main with ⟨τ2, h2, z, ⟨k, rfl⟩, rfl, no⟩ | ⟨t, h2, z, rfl, k, f, rfl⟩
  · exact ⟨none, defM_rt rfl ((seq_nx s1).trans ((seq_nx z).trans (ret_ok rfl))), no⟩
  · exact ⟨some k, defM_rt rfl ((seq_nx s1).trans (seq_rt z)), f⟩
theorem First.free {a : Nat} {x y : Int} {o : Option Nat} (f : First G W H a x y o) {n : Int} (hn : 0 < n) : Free G W H a (cnt W H n) x y ↔ match o with | none => True | some k => n ≤ (k : Int) + 1 := by
  have cl := cnt_le (W := W) (H := H) n
  cases o with
  | none => exact ⟨fun _ => trivial, fun _ k hk => f k (by omega)⟩
  | some k =>
    obtain ⟨f1, f2, f3⟩ := f
    refine ⟨fun z => ?_, fun (z : n ≤ (k : Int) + 1) j hj => f3 j ?_⟩
    · show n ≤ (k : Int) + 1
      apply Classical.byContradiction
      intro q
      exact z k (by unfold cnt; omega) f2
    · unfold cnt at hj
      omega
abbrev hst (G : List (List Nat)) (w : Str) (n : Int) (y x o : Option T) : TS_ := [some (rowsT G), some (.str w), some (.int n), y, x, o]
def hfB : MS := (sSeq (sSet 5 (eCall m_free_from (aCons (eVar 0) (aCons (eVar 1) (aCons (eVar 4) (aCons (eVar 3) aNil)))))) (sIf (TL.bOr (bTest (eOp bIs (eVar 5) (eK .non))) (bTest (eOp bGe (eVar 5) (eVar 2)))) (sRet (eK (.bl true))) sNil))
theorem has_eq : s_has_free = sSeq (sFor (iRange1 (aCons (eCall fLen (aCons (eVar 0) aNil)) aNil)) (mgName 3) (sFor (iRange1 (aCons (eCall fLen (aCons (eOp TL.bIx (eVar 0) (eK (.int 0))) aNil)) aNil)) (mgName 4) hfB)) (sRet (eK (.bl false))) := rfl
theorem hfB_ok (D : Dim G W H) {w : Str} {a : Nat} (Y : Way w a) {n : Int} (hn : 0 < n) (y x : Nat) (o0 : Option T) (h : VH) : ∃ o : Option T, (Free G W H a (cnt W H n) x y ∧ hfB (hst G w n (some (.int (y : Nat))) (some (.int (x : Nat))) o0) h = .rt (.bl true) h) ∨ (¬ Free G W H a (cnt W H n) x y ∧ hfB (hst G w n (some (.int (y : Nat))) (some (.int (x : Nat))) o0) h = .nx (hst G w n (some (.int (y : Nat))) (some (.int (x : Nat))) o) h) := by
  obtain ⟨o, e, f⟩ := from_ok D Y (x : Nat) (y : Nat) h
  have fr := f.free (n := n) hn
  have s1 : (sSet 5 (eCall m_free_from (aCons (eVar 0) (aCons (eVar 1) (aCons (eVar 4) (aCons (eVar 3) aNil)))))) (hst G w n (some (.int (y : Nat))) (some (.int (x : Nat))) o0) h = .nx (hst G w n (some (.int (y : Nat))) (some (.int (x : Nat))) (some (firstT o))) h :=
    (set_ok (i := 5) ((call_ok (ts := [rowsT G, .str w, .int (x : Nat), .int (y : Nat)]) rfl).trans e)).trans rfl
  refine ⟨some (firstT o), ?_⟩
  cases o with
  | none => exact .inl ⟨fr.mpr trivial, (seq_nx s1).trans rfl⟩
  | some k =>
    have t : TL.bOr (bTest (eOp bIs (eVar 5) (eK .non))) (bTest (eOp bGe (eVar 5) (eVar 2))) (hst G w n (some (.int (y : Nat))) (some (.int (x : Nat))) (some (firstT (some k)))) h = .ok (decide (n ≤ (k : Int) + 1)) h := rfl
    by_cases q : n ≤ (k : Int) + 1
    · rw [decide_eq_true q] at t
      exact .inl ⟨fr.mpr q, (seq_nx s1).trans ((if_t t).trans rfl)⟩
    · rw [decide_eq_false q] at t
      exact .inr ⟨fun z => q (fr.mp z), (seq_nx s1).trans ((if_f t).trans rfl)⟩
theorem has_ok (D : Dim G W H) {w : Str} {a : Nat} (Y : Way w a) {n : Int} (hn : 0 < n) (h : VH) : ∃ b, m_has_free [rowsT G, .str w, .int n] h = .ok (.bl b) h ∧ (b = true ↔ Run G W H a n) := by
  have L1 := (call_ok (b := fLen) (cons_ok (rfl : eVar 0 (startT 6 [rowsT G, .str w, .int n]) h = .ok (rowsT G) h) (rfl : aNil (startT 6 [rowsT G, .str w, .int n]) h = .ok [] h))).trans (rows_len D h)
  obtain ⟨r0, l0, l1⟩ := first_len D h
  have main := sFor_or (mi := iRange1 (aCons (eCall fLen (aCons (eVar 0) aNil)) aNil)) (g := mgName 3) (body := sFor (iRange1 (aCons (eCall fLen (aCons (eOp TL.bIx (eVar 0) (eK (.int 0))) aNil)) aNil)) (mgName 4) hfB) (τ := startT 6 [rowsT G, .str w, .int n]) (h := h) (h1 := h) (rd := fun _ => some (rangeT 0 H)) (ts := rangeT 0 H)
    (fun i τ h' => (∃ (y x o : Option T), τ = hst G w n y x o) ∧ h' = h ∧ ∀ y x : Nat, y < i → x < W → ¬ Free G W H a (cnt W H n) x y)
    (fun t h' => t = .bl true ∧ h' = h ∧ Run G W H a n) (rng_ok (cons_ok L1 rfl) (by have := D.h1; omega)) ⟨⟨_, _, _, rfl⟩, rfl, fun y x hy => by omega⟩ (fun _ _ _ _ => rfl) (fun y hy τ h' J => by
      obtain ⟨⟨y0, x0, o0, rfl⟩, rfl, no⟩ := J
      obtain ⟨hy2, ey⟩ := range_at hy
      rw [ey, Int.zero_add]
      refine ⟨hst G w n (some (.int (y : Nat))) x0 o0, _, rfl, ?_⟩
      have L2' := (call_ok (b := fLen) (cons_ok ((op_ok (b := TL.bIx) (rfl : eVar 0 (hst G w n (some (.int (y : Nat))) x0 o0) h' = .ok (rowsT G) h') (rfl : eK (.int 0) (hst G w n (some (.int (y : Nat))) x0 o0) h' = .ok (.int 0) h')).trans l0) (rfl : aNil (hst G w n (some (.int (y : Nat))) x0 o0) h' = .ok [] h'))).trans l1
      have inner := sFor_or (mi := iRange1 (aCons (eCall fLen (aCons (eOp TL.bIx (eVar 0) (eK (.int 0))) aNil)) aNil)) (g := mgName 4) (body := hfB) (τ := hst G w n (some (.int (y : Nat))) x0 o0) (h := h') (h1 := h') (rd := fun _ => some (rangeT 0 W)) (ts := rangeT 0 W)
        (fun j τ h2 => (∃ (x o : Option T), τ = hst G w n (some (.int (y : Nat))) x o) ∧ h2 = h' ∧ ∀ x : Nat, x < j → ¬ Free G W H a (cnt W H n) x y)
        (fun t h2 => t = .bl true ∧ h2 = h' ∧ Run G W H a n) (rng_ok (cons_ok L2' rfl) (by have := D.w1; omega)) ⟨⟨_, _, rfl⟩, rfl, fun x hx => by omega⟩ (fun _ _ _ _ => rfl) (fun x hx τ h2 J => by
          obtain ⟨⟨x1, o1, rfl⟩, rfl, no1⟩ := J
          obtain ⟨hx2, ex⟩ := range_at hx
          rw [ex, Int.zero_add]
          refine ⟨hst G w n (some (.int (y : Nat))) (some (.int (x : Nat))) o1, _, rfl, ?_⟩
          obtain ⟨o', z⟩ := hfB_ok D Y hn y x o1 h2
          rcases z with ⟨q, z⟩ | ⟨q, z⟩
          · exact .inr ⟨_, _, z, rfl, rfl, y, x, hy2, hx2, q⟩
          · refine .inl ⟨_, _, z, ⟨_, _, rfl⟩, rfl, fun x' hx' => ?_⟩
            by_cases c : x' = x
            · rw [c]; exact q
            · exact no1 x' (by omega))
      rw [range_len] at inner
      rcases inner with ⟨τ2, h2, z, ⟨x1, o1, rfl⟩, rfl, no1⟩ | ⟨t, h2, z, rfl, rfl, q⟩
      · refine .inl ⟨_, _, z, ⟨_, _, _, rfl⟩, rfl, fun y' x' hy' hx' => ?_⟩
        by_cases c : y' = y
        · rw [c]; exact no1 x' hx'
        · exact no y' x' (by omega) hx'
      · exact .inr ⟨_, _, z, rfl, rfl, q⟩)
  rw [range_len] at main
  rcases main with ⟨τ2, h2, z, ⟨y1, x1, o1, rfl⟩, rfl, no⟩ | ⟨t, h2, z, rfl, rfl, q⟩
  · refine ⟨false, ?_, ⟨fun z => Bool.noConfusion z, fun ⟨y, x, hy, hx, q⟩ => (no y x hy hx q).elim⟩⟩
    show defM 6 3 s_has_free _ _ = _
    rw [has_eq]
    exact defM_rt rfl ((seq_nx z).trans (ret_ok rfl))
  · refine ⟨true, ?_, ⟨fun _ => q, fun _ => rfl⟩⟩
    show defM 6 3 s_has_free _ _ = _
    rw [has_eq]
    exact defM_rt rfl (seq_rt z)
end
end K58

set_option Elab.async false
set_option linter.all false
set_option maxRecDepth 100000
set_option maxHeartbeats 4000000
namespace K58
open K33
open PySem L2 TL KG
section
variable {G G' : List (List Nat)} {W H : Nat}
theorem or_f {c d : MB} {τ : TS_} {h h1 : VH} (e : c τ h = .ok false h1) : TL.bOr c d τ h = d τ h1 := by unfold TL.bOr; simp only [e]
theorem or_t {c d : MB} {τ : TS_} {h h1 : VH} (e : c τ h = .ok true h1) : TL.bOr c d τ h = .ok true h1 := by unfold TL.bOr; simp only [e]
theorem not_ok {c : MB} {τ : TS_} {h h1 : VH} {b : Bool} (e : c τ h = .ok b h1) : TL.bNot c τ h = .ok (!b) h1 := by unfold TL.bNot; simp only [e]
theorem and_t {f g : ME} {τ : TS_} {h h1 : VH} (e : f τ h = .ok (.bl true) h1) : eAnd f g τ h = g τ h1 := by unfold eAnd; simp only [e]
theorem and_f {f g : ME} {τ : TS_} {h h1 : VH} (e : f τ h = .ok (.bl false) h1) : eAnd f g τ h = .ok (.bl false) h1 := by unfold eAnd; simp only [e]
theorem band_t {c d : MB} {τ : TS_} {h h1 : VH} (e : c τ h = .ok true h1) : TL.bAnd c d τ h = d τ h1 := by unfold TL.bAnd; simp only [e]
theorem band_f {c d : MB} {τ : TS_} {h h1 : VH} (e : c τ h = .ok false h1) : TL.bAnd c d τ h = .ok false h1 := by unfold TL.bAnd; simp only [e]
def ac1 : MB := (TL.bOr (TL.bNot (bTest (eIsi (.b "tuple") (eVar 0)))) (TL.bOr (bTest (eOp TL.bEq (eVar 0) (eTup aNil))) (TL.bNot (bTest (eIsi (.b "str") (eOp TL.bIx (eVar 0) (eK (.int 0))))))))
def ac2 : MB := (bTest (eOp bNe (eGetK kv_SIZES (eOp TL.bIx (eVar 0) (eK (.int 0)))) (eCall fLen (aCons (eVar 0) aNil))))
def ac3 : MB := (bTest (eOp bIn (eOp TL.bIx (eVar 0) (eK (.int 0))) (eTup (aCons (eK (.str "held")) (aCons (eK (.str "free")) aNil)))))
theorem acc_eq : s_accepts = sSeq (sIf ac1 (sRet (eK (.bl false))) sNil) (sSeq (sIf ac2 (sRet (eK (.bl false))) sNil) (sSeq (sIf ac3 (sRet (eCall m_shows_pattern (aCons (eVar 0) (aCons (eVar 1) aNil)))) sNil) sBad)) := rfl
abbrev frC (G : List (List Nat)) (w : Str) (n : Int) : T := .tup [.str "free", .str (spell G), .str w, .int n]
abbrev heC (G : List (List Nat)) (n : Int) : T := .tup [.str "held", .str (spell G), .int n]
theorem acc_pat {x : Str} {ts : List T} {p : T} {h : VH} {d : PyData} {r : Res T} (hd : T.dat h 10 (.tup (.str x :: ts)) = some d) (he : PyData.eqv d (.tuple []) = false) (hz : kv_SIZES.lookup x = some (.int ((ts.length + 1 : Nat) : Int))) (hw : bIn (.str x) (.tup [.str "held", .str "free"]) h = .ok (.bl true) h)
    (e : m_shows_pattern [.tup (.str x :: ts), p] h = r) (hr : ∃ b, r = .ok (.bl b) h) : m_accepts [.tup (.str x :: ts), p] h = r := by
  obtain ⟨b, rfl⟩ := hr
  obtain ⟨τ, hτ⟩ : ∃ τ, τ = startT 2 [.tup (.str x :: ts), p] := ⟨_, rfl⟩
  have v0 : eVar 0 τ h = .ok (.tup (.str x :: ts)) h := by rw [hτ]; rfl
  have v1 : eVar 1 τ h = .ok p h := by rw [hτ]; rfl
  have nil : aNil τ h = .ok [] h := rfl
  have f0 : eOp TL.bIx (eVar 0) (eK (.int 0)) τ h = .ok (.str x) h := (op_ok (b := TL.bIx) v0 (rfl : eK (.int 0) τ h = .ok (.int 0) h)).trans (by
    have z : atI (T.str x :: ts) 0 = some (.str x) := by rw [ix_nn (Int.le_refl _) (by simp)]; rfl
    simp only [TL.bIx, z])
  have i1 : eIsi (.b "tuple") (eVar 0) τ h = .ok (.bl true) h := by simp only [eIsi, v0, tyOf, isiB, beq_self_eq_true, Bool.true_or]
  have i2 : eIsi (.b "str") (eOp TL.bIx (eVar 0) (eK (.int 0))) τ h = .ok (.bl true) h := by simp only [eIsi, f0, tyOf, isiB, beq_self_eq_true, Bool.true_or]
  have q0 : TL.bEq (.tup (.str x :: ts)) (.tup []) h = .ok (.bl false) h := by
    have z : T.dat h 10 (.tup []) = some (.tuple []) := rfl
    unfold TL.bEq bEqG
    rw [hd, z]
    simp only [he]
  have q1 : bTest (eOp TL.bEq (eVar 0) (eTup aNil)) τ h = .ok false h := test_ok ((op_ok (b := TL.bEq) v0 (rfl : eTup aNil τ h = .ok (.tup []) h)).trans q0)
  have c1 : ac1 τ h = .ok false h := (or_f (not_ok (test_ok i1))).trans ((or_f q1).trans (not_ok (test_ok i2)))
  have g1 : eGetK kv_SIZES (eOp TL.bIx (eVar 0) (eK (.int 0))) τ h = .ok (.int ((ts.length + 1 : Nat) : Int)) h := by simp only [eGetK, f0, hz]; rfl
  have g2 : eCall fLen (aCons (eVar 0) aNil) τ h = .ok (.int ((ts.length + 1 : Nat) : Int)) h := (call_ok (b := fLen) (cons_ok v0 nil)).trans rfl
  have c2 : ac2 τ h = .ok false h := by
    refine test_ok ((op_ok (b := bNe) g1 g2).trans ?_)
    unfold bNe bEqG
    simp only [dat_int, PyData.eqv]
    simp
  have c3 : ac3 τ h = .ok true h := test_ok ((op_ok (b := bIn) f0 (rfl : eTup (aCons (eK (.str "held")) (aCons (eK (.str "free")) aNil)) τ h = .ok (.tup [.str "held", .str "free"]) h)).trans hw)
  show defM 2 2 s_accepts _ _ = _
  rw [acc_eq]
  refine defM_rt rfl ?_
  rw [← hτ]
  exact (seq_nx ((if_f c1).trans rfl)).trans ((seq_nx ((if_f c2).trans rfl)).trans (seq_rt ((if_t c3).trans (ret_ok ((call_ok (b := m_shows_pattern) (cons_ok v0 (cons_ok v1 nil))).trans e)))))
theorem in_free (h : VH) : bIn (.str "free") (.tup [.str "held", .str "free"]) h = .ok (.bl true) h := by with_unfolding_all rfl
theorem in_held (h : VH) : bIn (.str "held") (.tup [.str "held", .str "free"]) h = .ok (.bl true) h := by with_unfolding_all rfl
def sp1 : MS := (sSet 2 (eCall m_tile_told (aCons (eOp TL.bIx (eVar 0) (eK (.int 1))) aNil)))
def sp2 : MB := (TL.bOr (bTest (eOp bIs (eVar 2) (eK .non))) (TL.bOr (bTest (eOp bIsn (eVar 1) (eK .non))) (TL.bNot (bTest (eCall m_is_number (aCons (eOp TL.bIx (eVar 0) (eNeg (eK (.int 1)))) aNil))))))
def sp3 : MB := (bTest (eOp TL.bEq (eOp TL.bIx (eVar 0) (eK (.int 0))) (eK (.str "held"))))
def sp4 : MS := (sRet (eNot (eCall fAny (aCons (eL (mLc (iKeysK kv_FIGURE_OF) [3] (mgName 3) bYes (eCall m_has_free (aCons (eVar 2) (aCons (eVar 3) (aCons (eOp TL.bIx (eVar 0) (eK (.int 2))) aNil)))))) aNil))))
def sp5 : MS := (sRet (eAnd (eIsi (.b "str") (eOp TL.bIx (eVar 0) (eK (.int 2)))) (eAnd (eInK false kv_FIGURE_OF (eOp TL.bIx (eVar 0) (eK (.int 2)))) (eCall m_has_free (aCons (eVar 2) (aCons (eOp TL.bIx (eVar 0) (eK (.int 2))) (aCons (eOp TL.bIx (eVar 0) (eK (.int 3))) aNil)))))))
theorem sp_eq : s_shows_pattern = sSeq sp1 (sSeq (sIf sp2 (sRet (eK (.bl false))) sNil) (sSeq (sIf sp3 sp4 sNil) sp5)) := rfl
theorem number_ok {n : Int} (hn : 0 < n) (h : VH) : m_is_number [.int n] h = .ok (.bl true) h := by
  have w : m_is_whole [.int n] h = .ok (.bl true) h := rfl
  refine defM_rt rfl (ret_ok ?_)
  have a : eCall m_is_whole (aCons (eVar 0) aNil) (startT 1 [.int n]) h = .ok (.bl true) h := (call_ok (ts := [.int n]) rfl).trans w
  have b : eOp bGt (eVar 0) (eK (.int 0)) (startT 1 [.int n]) h = .ok (.bl (decide (0 < n))) h := rfl
  rw [and_t a, b, decide_eq_true hn]
/-- the checker's begin, over a claim that tells a pattern and a length -/
theorem sp_begin (D : Dim G W H) (M : Mut G W H) {x : Str} {ts : List T} {p : T} {n : Int} {h : VH} (hn : 0 < n) (h1 : atI (.str x :: ts) 1 = some (.str (spell G))) (hl : atI (.str x :: ts) (-1) = some (.int n)) : sp1 (startT 4 [.tup (.str x :: ts), p]) h = .nx [some (.tup (.str x :: ts)), some p, some (rowsT G), none] h ∧
    sp2 [some (.tup (.str x :: ts)), some p, some (rowsT G), none] h = .ok (!TL.isNon p) h := by
  have f1 : eOp TL.bIx (eVar 0) (eK (.int 1)) (startT 4 [.tup (.str x :: ts), p]) h = .ok (.str (spell G)) h := (op_ok (b := TL.bIx) (rfl : eVar 0 (startT 4 [.tup (.str x :: ts), p]) h = .ok (.tup (.str x :: ts)) h) rfl).trans (by simp only [TL.bIx, h1])
  refine ⟨(set_ok (i := 2) ((call_ok (b := m_tile_told) (cons_ok f1 rfl)).trans (told_tile D M h))).trans rfl, ?_⟩
  have f2 : eOp TL.bIx (eVar 0) (eNeg (eK (.int 1))) [some (.tup (.str x :: ts)), some p, some (rowsT G), none] h = .ok (.int n) h := (op_ok (b := TL.bIx) (rfl : eVar 0 [some (.tup (.str x :: ts)), some p, some (rowsT G), none] h = .ok (.tup (.str x :: ts)) h) (rfl : eNeg (eK (.int 1)) [some (.tup (.str x :: ts)), some p, some (rowsT G), none] h = .ok (.int (-1)) h)).trans (by simp only [TL.bIx, hl])
  have t1 : bTest (eOp bIs (eVar 2) (eK .non)) [some (.tup (.str x :: ts)), some p, some (rowsT G), none] h = .ok false h := rfl
  have t2 : bTest (eOp bIsn (eVar 1) (eK .non)) [some (.tup (.str x :: ts)), some p, some (rowsT G), none] h = .ok (!TL.isNon p) h := by
    refine test_ok ((op_ok (b := bIsn) rfl rfl).trans ?_)
    simp only [bIsn, bIsG, Bool.true_bne]
  have t3 : TL.bNot (bTest (eCall m_is_number (aCons (eOp TL.bIx (eVar 0) (eNeg (eK (.int 1)))) aNil))) [some (.tup (.str x :: ts)), some p, some (rowsT G), none] h = .ok false h := by
    exact not_ok (test_ok ((call_ok (b := m_is_number) (cons_ok f2 rfl)).trans (number_ok hn h)))
  refine (or_f t1).trans ?_
  cases e : TL.isNon p with
  | true => rw [e] at t2; exact (or_f t2).trans t3
  | false => rw [e] at t2; exact or_t t2
theorem acc_free (D : Dim G W H) (M : Mut G W H) {w : Str} {a : Nat} (Y : Way w a) {n : Int} (hn : 0 < n) (h : VH) : ∃ b, m_accepts [frC G w n, .non] h = .ok (.bl b) h ∧ (b = true ↔ Run G W H a n) := by
  obtain ⟨b, e, i⟩ := has_ok D Y hn h
  refine ⟨b, acc_pat (d := .tuple [.str "free", .str (spell G), .str w, .int n]) rfl rfl rfl (in_free h) ?_ ⟨b, rfl⟩, i⟩
  obtain ⟨s1, s2⟩ := sp_begin D M (x := "free") (ts := [.str (spell G), .str w, .int n]) (p := .non) (h := h) hn rfl rfl
  have c3 : sp3 [some (frC G w n), some .non, some (rowsT G), none] h = .ok false h := by with_unfolding_all rfl
  show defM 4 2 s_shows_pattern _ _ = _
  rw [sp_eq]
  refine defM_rt rfl ((seq_nx s1).trans ((seq_nx ((if_f s2).trans rfl)).trans ((seq_nx ((if_f c3).trans rfl)).trans (ret_ok ?_))))
  have a1 : eIsi (.b "str") (eOp TL.bIx (eVar 0) (eK (.int 2))) [some (frC G w n), some .non, some (rowsT G), none] h = .ok (.bl true) h := rfl
  have a2 : eInK false kv_FIGURE_OF (eOp TL.bIx (eVar 0) (eK (.int 2))) [some (frC G w n), some .non, some (rowsT G), none] h = .ok (.bl true) h := by
    have f2 : eOp TL.bIx (eVar 0) (eK (.int 2)) [some (frC G w n), some .non, some (rowsT G), none] h = .ok (.str w) h := rfl
    simp only [eInK, f2, Way.fig Y]
    rfl
  have a3 : eCall m_has_free (aCons (eVar 2) (aCons (eOp TL.bIx (eVar 0) (eK (.int 2))) (aCons (eOp TL.bIx (eVar 0) (eK (.int 3))) aNil))) [some (frC G w n), some .non, some (rowsT G), none] h = .ok (.bl b) h := (call_ok (ts := [rowsT G, .str w, .int n]) rfl).trans e
  exact (and_t a1).trans ((and_t a2).trans a3)
theorem acc_odd (D : Dim G W H) (M : Mut G W H) {w : Str} {n : Int} (hn : 0 < n) {p : T} (hp : TL.isNon p = false) (h : VH) : m_accepts [frC G w n, p] h = .ok (.bl false) h := by
  refine acc_pat (d := .tuple [.str "free", .str (spell G), .str w, .int n]) rfl rfl rfl (in_free h) ?_ ⟨_, rfl⟩
  obtain ⟨s1, s2⟩ := sp_begin D M (x := "free") (ts := [.str (spell G), .str w, .int n]) (p := p) (h := h) hn rfl rfl
  rw [hp] at s2
  show defM 4 2 s_shows_pattern _ _ = _
  rw [sp_eq]
  exact defM_rt rfl ((seq_nx s1).trans (seq_rt ((if_t s2).trans rfl)))
/-! the judge -/
theorem judge_ok {c p : T} {b : Bool} {h : VH} (e : m_accepts [c, p] h = .ok (.bl b) h) : m_law_judge [c, p, .bl b] h = .ok (.bl true) h := by
  have s1 : (sSet 3 (eL (aLim (aCons (eCall m_accepts (aCons (eVar 0) (aCons (eVar 1) aNil))) (aCons (eCall m_accepts (aPerm [1, 0] (aCons (eVar 1) (aCons (eVar 0) aNil)))) aNil))))) (startT 4 [c, p, .bl b]) h = .nx [some c, some p, some (.bl b), some (.lst [.bl b, .bl b])] h := by
    have a1 : eCall m_accepts (aCons (eVar 0) (aCons (eVar 1) aNil)) (startT 4 [c, p, .bl b]) h = .ok (.bl b) h := (call_ok (ts := [c, p]) rfl).trans e
    have a2 : eCall m_accepts (aPerm [1, 0] (aCons (eVar 1) (aCons (eVar 0) aNil))) (startT 4 [c, p, .bl b]) h = .ok (.bl b) h := (call_ok (ts := [c, p]) rfl).trans e
    have a3 : aLim (aCons (eCall m_accepts (aCons (eVar 0) (aCons (eVar 1) aNil))) (aCons (eCall m_accepts (aPerm [1, 0] (aCons (eVar 1) (aCons (eVar 0) aNil)))) aNil)) (startT 4 [c, p, .bl b]) h = .ok [.bl b, .bl b] h := by
      unfold aLim
      rw [cons_ok a1 (cons_ok a2 rfl)]
      rfl
    exact (set_ok (i := 3) (eL_ok a3)).trans rfl
  have r : fRepr [.lst [.bl b, .bl b]] h = .ok (.str (PyData.shown (.list [.bool b, .bool b]))) h := by
    have d : T.dat h 10 (.lst [.bl b, .bl b]) = some (.list [.bool b, .bool b]) := rfl
    simp only [fRepr, d]
    rw [if_pos]
    cases b <;> decide +kernel
  refine defM_rt rfl ((seq_nx s1).trans (ret_ok ?_))
  have r1 : eCall fRepr (aCons (eVar 3) aNil) [some c, some p, some (.bl b), some (.lst [.bl b, .bl b])] h = _ := (call_ok (ts := [.lst [.bl b, .bl b]]) rfl).trans r
  have r2 : eCall fRepr (aCons (eL (aLim (aCons (eVar 2) (aCons (eVar 2) aNil)))) aNil) [some c, some p, some (.bl b), some (.lst [.bl b, .bl b])] h = _ := (call_ok (ts := [.lst [.bl b, .bl b]]) rfl).trans r
  refine (op_ok (b := TL.bEq) r1 r2).trans ?_
  unfold TL.bEq bEqG
  simp only [dat_str, PyData.eqv, beq_self_eq_true]
end
end K58

set_option Elab.async false
set_option linter.all false
set_option maxRecDepth 100000
set_option maxHeartbeats 4000000
namespace K58
open K33
open PySem L2 TL KG
theorem least {P : Nat → Prop} (h : ∃ n, P n) : ∃ n, P n ∧ ∀ m, m < n → ¬ P m := by
  obtain ⟨n, hn⟩ := h
  induction n using Nat.strongRecOn with
  | ind n ih =>
    by_cases q : ∃ m, m < n ∧ P m
    · obtain ⟨m, h1, h2⟩ := q
      exact ih m h1 h2
    · exact ⟨n, hn, fun m hm z => q ⟨m, hm, z⟩⟩
section
variable {G G' : List (List Nat)} {W H : Nat}
theorem st_per (D : Dim G W H) (a : Nat) (x y k t : Int) : K33.St G W H a (x + (k + t * ((H * W : Nat) : Int)) * sx a) (y + (k + t * ((H * W : Nat) : Int)) * sy a) ↔ K33.St G W H a (x + k * sx a) (y + k * sy a) := by
  unfold K33.St
  rw [cell_congr (x' := x + k * sx a) (y' := y + k * sy a)]
  · have : x + (k + t * ((H * W : Nat) : Int)) * sx a = x + k * sx a + W * (H * t * sx a) := by
      rw [Int.natCast_mul, Int.add_mul, Int.mul_comm t, Int.mul_comm (H : Int) W]
      simp only [Int.mul_assoc]
      omega
    rw [this, Int.add_mul_emod_self_left]
  · have : y + (k + t * ((H * W : Nat) : Int)) * sy a = y + k * sy a + H * (W * t * sy a) := by
      rw [Int.natCast_mul, Int.add_mul, Int.mul_comm t]
      simp only [Int.mul_assoc]
      omega
    rw [this, Int.add_mul_emod_self_left]
theorem free_spots {a : Nat} {x y : Int} (f : Free G W H a (W * H) x y) : spots G W H a x y = [] := by
  unfold spots
  rw [List.filter_eq_nil_iff]
  intro k hk
  rw [List.mem_range'_1] at hk
  have := f k (by rw [Nat.mul_comm]; omega)
  simp [this]
theorem run_iff (D : Dim G W H) {a : Nat} {r : Option Nat} (hL : IsL (K33.St G W H a) (sx a) (sy a) r) {n : Int} (hn : 0 < n) : Run G W H a n ↔ match r with | none => True | some M => n ≤ (M : Int) := by
  have w0 := D.w0
  have h0 := D.h0
  -- a start anywhere may be moved into the pattern
  have box : ∀ (N : Nat) (x y : Int), (∀ k : Nat, k < N → ¬ K33.St G W H a (x + k * sx a) (y + k * sy a)) → ∃ y' x' : Nat, y' < H ∧ x' < W ∧ Free G W H a N x' y' := fun N x y f => by
    obtain ⟨x', ex, hx⟩ := mod_ix x w0
    obtain ⟨y', ey, hy⟩ := mod_ix y h0
    refine ⟨y', x', hy, hx, fun k hk z => f k hk ?_⟩
    rw [← st_mod, ex, ey]
    exact z
  cases r with
  | none =>
    obtain ⟨x, y, no⟩ := hL
    exact ⟨fun _ => trivial, fun _ => box _ x y fun k _ => no k⟩
  | some M =>
    obtain ⟨all, ⟨gx, gy, g⟩, most⟩ := hL
    refine ⟨fun ⟨y, x, hy, hx, f⟩ => ?_, fun (q : n ≤ (M : Int)) => ?_⟩
    · show n ≤ (M : Int)
      have cl := cnt_le (W := W) (H := H) n
      have nt : ¬ Free G W H a (W * H) x y := fun f => by
        have z := none_end D (free_spots f)
        have := IsL.uniq z (r' := some M) ⟨all, ⟨gx, gy, g⟩, most⟩
        cases this
      have small : cnt W H n < W * H := by
        rcases Nat.lt_or_ge (cnt W H n) (W * H) with c | c
        · exact c
        · have : cnt W H n = W * H := by omega
          rw [this] at f
          exact (nt f).elim
      have en : (cnt W H n : Int) = n - 1 := by unfold cnt at small ⊢; omega
      obtain ⟨N, hN⟩ : ∃ N, N = cnt W H n := ⟨_, rfl⟩
      rw [← hN] at f en
      obtain ⟨k, hk⟩ := all x y
      have L0 : 0 < ((H * W : Nat) : Int) := by
        have := Nat.mul_pos h0 w0
        omega
      have sh : ∀ t : Int, K33.St G W H a (x + (k + t * ((H * W : Nat) : Int)) * sx a) (y + (k + t * ((H * W : Nat) : Int)) * sy a) := fun t => (st_per D a x y k t).mpr hk
      obtain ⟨i, ⟨i0, hi⟩, imin⟩ := least (P := fun i : Nat => 0 < i ∧ K33.St G W H a (x + (-(i : Int)) * sx a) (y + (-(i : Int)) * sy a)) (by
        obtain ⟨t, ht⟩ : ∃ t : Int, k + t * ((H * W : Nat) : Int) < 0 := ⟨-(k.natAbs + 1), by
          have h1 : (k.natAbs + 1 : Int) * 1 ≤ (k.natAbs + 1) * ((H * W : Nat) : Int) := Int.mul_le_mul_of_nonneg_left (by omega) (by omega)
          rw [Int.neg_mul]
          omega⟩
        refine ⟨(-(k + t * ((H * W : Nat) : Int))).toNat, by omega, ?_⟩
        have e : -(((-(k + t * ((H * W : Nat) : Int))).toNat : Nat) : Int) = k + t * ((H * W : Nat) : Int) := by omega
        rw [e]
        exact sh t)
      obtain ⟨j, ⟨j0, hj⟩, jmin⟩ := least (P := fun j : Nat => N ≤ j ∧ K33.St G W H a (x + (j : Int) * sx a) (y + (j : Int) * sy a)) (by
        obtain ⟨t, ht⟩ : ∃ t : Int, (N : Int) ≤ k + t * ((H * W : Nat) : Int) := ⟨k.natAbs + N, by
          have h1 : (k.natAbs + N : Int) * 1 ≤ (k.natAbs + N) * ((H * W : Nat) : Int) := Int.mul_le_mul_of_nonneg_left (by omega) (by omega)
          omega⟩
        refine ⟨(k + t * ((H * W : Nat) : Int)).toNat, by omega, ?_⟩
        have e : (((k + t * ((H * W : Nat) : Int)).toNat : Nat) : Int) = k + t * ((H * W : Nat) : Int) := by omega
        rw [e]
        exact sh t)
      have at_ : ∀ (u s : Int) (p : Int), u + (-(i : Int)) * s + p * s = u + (p - i) * s := fun u s p => by
        rw [Int.sub_mul, Int.neg_mul]; omega
      have gp : Gap (K33.St G W H a) (sx a) (sy a) (x + (-(i : Int)) * sx a) (y + (-(i : Int)) * sy a) (i + j) := by
        refine ⟨by omega, hi, ?_, fun p p0 p1 => ?_⟩
        · rw [at_, at_]
          have e : ((i + j : Nat) : Int) - i = j := by omega
          rw [e]
          exact hj
        · rw [at_, at_]
          intro z
          rcases Nat.lt_or_ge p i with c | c
          · refine imin (i - p) (by omega) ⟨by omega, ?_⟩
            have e : -((i - p : Nat) : Int) = (p : Int) - i := by omega
            rw [e]
            exact z
          · have e : (p : Int) - i = ((p - i : Nat) : Int) := by omega
            rw [e] at z
            rcases Nat.lt_or_ge (p - i) N with c2 | c2
            · exact f (p - i) c2 z
            · exact jmin (p - i) (by omega) ⟨c2, z⟩
      have := most _ _ _ gp
      omega
    · obtain ⟨g0, g1, g2, g3⟩ := g
      refine box _ (gx + 1 * sx a) (gy + 1 * sy a) fun k hk => ?_
      have e : ∀ u s : Int, u + 1 * s + k * s = u + ((k + 1 : Nat) : Int) * s := fun u s => by
        have : ((k + 1 : Nat) : Int) = (k : Int) + 1 := by omega
        rw [this, Int.add_mul]
        omega
      rw [e, e]
      have : (cnt W H n : Int) ≤ n - 1 := by unfold cnt; omega
      exact g3 (k + 1) (by omega) (by omega)
end
end K58

set_option Elab.async false
set_option linter.all false
set_option maxRecDepth 100000
set_option maxHeartbeats 4000000
namespace K58
open K33
open PySem L2 TL KG
theorem max2_int (p q : Int) (h : VH) : fMax2 [.int p, .int q] h = .ok (.int (if q > p then q else p)) h := rfl
theorem lcL_true {rd : VH → Option (List T)} {g : MG} {e : ME} {τ : TS_} {ts : List T} (hrd : ∀ h, rd h = some ts) (I : VH → Prop) (hb : ∀ t ∈ ts, ∀ h, I h → ∃ τ1 h', g t τ h = .ok τ1 h ∧ e τ1 h = .ok (.bl true) h' ∧ I h') :
    ∀ (k i : Nat) (acc : List T) (h : VH), i + k = ts.length → I h → ∃ h', lcL rd g bYes e τ ts.length k i acc h = .ok (acc ++ (List.range k).map fun _ => T.bl true) h' ∧ I h' := by
  intro k
  induction k with
  | zero =>
    intro i acc h hi Ih
    exact ⟨h, by simp [lcL, hrd], Ih⟩
  | succ k ih =>
    intro i acc h hi Ih
    have hlt : i < ts.length := by omega
    have e1 : ts[i]? = some ts[i] := List.getElem?_eq_getElem hlt
    obtain ⟨τ1, h2, a1, a2, I2⟩ := hb ts[i] (List.getElem_mem hlt) h Ih
    obtain ⟨h3, z, I3⟩ := ih (i + 1) (acc ++ [.bl true]) h2 (by omega) I2
    refine ⟨h3, ?_, I3⟩
    have b : bYes τ1 h = .ok true h := rfl
    simp only [lcL, hrd, e1, a1, b, a2, if_true]
    rw [z, List.range_succ_eq_map, List.map_cons, List.map_map, List.append_assoc]
    rfl
/-- a law of cases: each is made of a number of the script, each is right -/
theorem cases_ok {bag right : List T → VH → Res T} {m : Nat} (hm : m ≤ 50) (hm2 : 2 ≤ m) (hb : ∀ (ns : List Int) (s : Nat) (h : VH), s < 100 → Flat h → ∃ h', bag [.arg (ns.map T.int), .int (s : Nat)] h = .ok (.ref h.length) h' ∧ Iv h.length h')
    (hr : ∀ (n : Nat) (h : VH), Iv n h → ∃ h', right [.ref n] h = .ok (.bl true) h' ∧ Iv n h') (ns : List Int) (hl : ns.length ≤ 63) :
    ∃ h', defM 2 1 (sRet (eCall fAll (aCons (eL (mLc (iRange1 (aCons (eCall fMax2 (aCons (eK (.int 2)) (aCons (eCall fMin2 (aCons (eCall fLen (aCons (eVar 0) aNil)) (aCons (eK (.int (m : Nat))) aNil))) aNil))) aNil)) [1] (mgName 1) bYes (eCall right (aCons (eCall bag (aCons (eVar 0) (aCons (eVar 1) aNil))) aNil)))) aNil))) [.arg (ns.map T.int)] [] = .ok (.bl true) h' := by
  obtain ⟨K, hK, eK'⟩ : ∃ K : Nat, K ≤ 50 ∧ (if (if ((m : Nat) : Int) < ((ns.length : Nat) : Int) then ((m : Nat) : Int) else ((ns.length : Nat) : Int)) > 2 then (if ((m : Nat) : Int) < ((ns.length : Nat) : Int) then ((m : Nat) : Int) else ((ns.length : Nat) : Int)) else (2 : Int)) = (K : Nat) := by
    by_cases q : (m : Int) < (ns.length : Nat)
    · rw [if_pos q]
      by_cases p : (m : Int) > 2
      · rw [if_pos p]; exact ⟨m, hm, rfl⟩
      · rw [if_neg p]; exact ⟨2, by omega, rfl⟩
    · rw [if_neg q]
      by_cases p : ((ns.length : Nat) : Int) > 2
      · rw [if_pos p]; exact ⟨ns.length, by omega, rfl⟩
      · rw [if_neg p]; exact ⟨2, by omega, rfl⟩
  have e1 : aCons (eCall fMax2 (aCons (eK (.int 2)) (aCons (eCall fMin2 (aCons (eCall fLen (aCons (eVar 0) aNil)) (aCons (eK (.int (m : Nat))) aNil))) aNil))) aNil (startT 2 [.arg (ns.map T.int)]) [] = .ok [.int (K : Nat)] [] := by
    have l1 : eCall fLen (aCons (eVar 0) aNil) (startT 2 [.arg (ns.map T.int)]) [] = .ok (.int (ns.length : Nat)) [] := by
      refine (call_ok (ts := [.arg (ns.map T.int)]) rfl).trans ?_
      simp [fLen, seqOf]
    have l2 := (call_ok (b := fMin2) (cons_ok l1 (rfl : aCons (eK (.int (m : Nat))) aNil (startT 2 [.arg (ns.map T.int)]) [] = .ok [.int (m : Nat)] []))).trans (min2_int _ _ _)
    have l3 := (call_ok (b := fMax2) (cons_ok (rfl : eK (.int 2) (startT 2 [.arg (ns.map T.int)]) [] = .ok (.int 2) []) (cons_ok l2 (rfl : aNil (startT 2 [.arg (ns.map T.int)]) [] = .ok [] [])))).trans (max2_int _ _ _)
    rw [eK'] at l3
    exact cons_ok l3 rfl
  obtain ⟨h', z, fl⟩ := lcL_true (rd := fun _ => some (rangeT 0 K)) (g := mgName 1) (e := eCall right (aCons (eCall bag (aCons (eVar 0) (aCons (eVar 1) aNil))) aNil)) (τ := wipeT (startT 2 [.arg (ns.map T.int)]) [1]) (ts := rangeT 0 K) (fun _ => rfl) Flat (fun t ht h f => by
    obtain ⟨i, hi, rfl⟩ := List.getElem_of_mem ht
    obtain ⟨hi2, ei⟩ := range_at hi
    rw [ei, Int.zero_add]
    obtain ⟨h1, b1, I1⟩ := hb ns i h (by omega) f
    obtain ⟨h2, b2, I2⟩ := hr _ h1 I1
    exact ⟨[some (.arg (ns.map T.int)), some (.int (i : Nat))], h2, rfl, (call_ok (cons_ok ((call_ok (ts := [.arg (ns.map T.int), .int (i : Nat)]) rfl).trans b1) rfl)).trans b2, I2.fl⟩) K 0 [] [] (by rw [range_len]; omega) (fun o ho => by cases ho)
  rw [range_len] at z
  have q : mLc (iRange1 (aCons (eCall fMax2 (aCons (eK (.int 2)) (aCons (eCall fMin2 (aCons (eCall fLen (aCons (eVar 0) aNil)) (aCons (eK (.int (m : Nat))) aNil))) aNil))) aNil)) [1] (mgName 1) bYes (eCall right (aCons (eCall bag (aCons (eVar 0) (aCons (eVar 1) aNil))) aNil)) (startT 2 [.arg (ns.map T.int)]) [] = .ok ((List.range K).map fun _ => T.bl true) h' := by
    unfold mLc
    rw [rng_ok e1 (by omega)]
    simp only [range_len]
    rw [if_pos (by omega), z]
    rfl
  exact ⟨h', defM_rt rfl (ret_ok ((call_ok (cons_ok (eL_ok q) rfl)).trans (all_bl (List.range K) h')))⟩
end K58

set_option Elab.async false
set_option linter.all false
set_option maxRecDepth 100000
set_option maxHeartbeats 4000000
namespace K57
open K33
open K58
open PySem L2 TL
def s_law_held : MS := (sRet (eNot (eCall fAny (aCons (eL (mLc (iSeqC (eL (aLim (aCons (eK (.str "6")) (aCons (eK (.str "8")) (aCons (eK (.str "9")) (aCons (eK (.str "7")) aNil))))))) [2] (mgName 2) bYes (eCall m_law_run_free (aCons (eVar 0) (aCons (eVar 2) (aCons (eVar 1) aNil)))))) aNil))))
def m_law_held : List T → VH → Res T := defM 3 2 s_law_held

def s_law_is_tile : MS := (sSeq (sPar 1 2 (aCons (eCall fLen (aCons (eOp bIx (eVar 0) (eK (.int 0))) aNil)) (aCons (eCall fLen (aCons (eVar 0) aNil)) aNil)))
  (sSeq (sFor (iRange1 (aCons (eVar 2) aNil)) (mgName 3) (sFor (iRange1 (aCons (eVar 1) aNil)) (mgName 4) (sSeq (sSet 5 (eOp bIx (eOp bIx (eVar 0) (eVar 3)) (eVar 4)))
  (sIf (bTest (eOp bNe (eVar 5) (eK (.str "0")))) (sSeq (sSet 6 (eCall m_law_ahead (aCons (eVar 5) aNil)))
  (sSeq (sPar 7 8 (aCons (eOp bMod (eCall fInt (aCons (eOp bAdd (eVar 4) (eOp bIx (eVar 6) (eK (.int 0)))) aNil)) (eVar 1)) (aCons (eOp bMod (eCall fInt (aCons (eOp bAdd (eVar 3) (eOp bIx (eVar 6) (eK (.int 1)))) aNil)) (eVar 2)) aNil)))
  (sIf (bTest (eOp bNe (eOp bAdd (eCall fInt (aCons (eOp bIx (eOp bIx (eVar 0) (eVar 8)) (eVar 7)) aNil)) (eCall fInt (aCons (eVar 5) aNil))) (eK (.int 10)))) (sRet (eK (.bl false))) sNil))) sNil))))
  (sRet (eK (.bl true)))))
def m_law_is_tile : List T → VH → Res T := defM 9 1 s_law_is_tile

def s_law_wide : MS := (sSeq (sSet 0 (eL (aLim (aCons (eK (.str "6430000")) (aCons (eK (.str "6407000")) (aCons (eK (.str "6400010")) (aCons (eK (.str "6400900")) aNil)))))))
  (sRet (eMt "str" mJoin (eK (.str "/")) (aCons (eOp bAdd (eVar 0) (eL (aLim (aCons (eK (.str "6422222")) (aCons (eK (.str "6488888")) (aCons (eK (.str "2264000")) (aCons (eK (.str "8864000")) aNil))))))) aNil))))
def m_law_wide : List T → VH → Res T := defM 1 0 s_law_wide

def s_law_right : MS := (sSeq (sFor (iRange1 (aCons (eK (.int 5)) aNil)) (mgName 1) (sSeq (sPar 2 3 (aCons (eOp bAdd (eK (.int 1)) (eCall m_law_take (aCons (eVar 0) (aCons (eK (.int 6)) aNil)))) (aCons (eOp bAdd (eK (.int 1)) (eCall m_law_take (aCons (eVar 0) (aCons (eK (.int 6)) aNil)))) aNil)))
  (sSeq (sSet 4 (eCall m_law_tile (aCons (eVar 0) (aCons (eVar 2) (aCons (eVar 3) (aCons (eCall m_law_of (aCons (eVar 0) (aCons (eL (aLim (aCons (eK (.int 2)) (aCons (eK (.int 10)) (aCons (eK (.int 60)) (aCons (eK (.int 60)) aNil)))))) aNil))) aNil))))))
  (sSeq (sIf (bTest (eOp bEq (eCall m_law_take (aCons (eVar 0) (aCons (eK (.int 3)) aNil))) (eK (.int 0)))) (sSet 4 (eCall m_law_of (aCons (eVar 0) (aCons (eL (aLim (aCons (eL (aLim (aCons (eK (.str "6480")) (aCons (eK (.str "6420")) aNil)))) (aCons (eL (aLim (aCons (eK (.str "6498")) (aCons (eK (.str "7261")) aNil)))) (aCons (eL (aLim (aCons (eK (.str "64")) (aCons (eK (.str "64")) aNil)))) (aCons (eL (aLim (aCons (eK (.str "0")) aNil))) (aCons (eL (aLim (aCons (eK (.str "2")) (aCons (eK (.str "8")) aNil)))) aNil))))))) aNil)))) sNil)
  (sSeq (sIf (bTest (eOp bEq (eCall m_law_take (aCons (eVar 0) (aCons (eK (.int 3)) aNil))) (eK (.int 0)))) (sSeq (sSet 4 (eRev (eMt "str" mSplit (eCall m_law_wide aNil) (aCons (eK (.str "/")) aNil))))
  (sIf (bTest (eOp bEq (eCall m_law_take (aCons (eVar 0) (aCons (eK (.int 2)) aNil))) (eK (.int 0)))) (sSet 4 (eOp bAdd (eSl (eVar 4) oNo (oSome (eK (.int 6)))) (eL (aLim (aCons (eK (.str "6400000")) (aCons (eK (.str "6400000")) aNil)))))) sNil)) sNil)
  (sSeq (sSet 5 (eCall m_law_tile_text (aCons (eVar 4) aNil)))
  (sSeq (sSet 6 (eVar 5))
  (sSeq (sIf (bTest (eOp bLt (eCall fLen (aCons (eOp bIx (eVar 4) (eK (.int 0))) aNil)) (eK (.int 7)))) (sSet 6 (eCall m_law_tile_text (aCons (eL (mLc (iSeqC (eVar 4)) [7] (mgName 7) bYes (eOp bMulS (eVar 7) (eK (.int 2))))) aNil))) sNil)
  (sSeq (sSet 8 (eCall m_law_is_tile (aCons (eVar 4) aNil)))
  (sSeq (sSet 9 (eIf (bTest (eVar 8)) (eCall m_least_held (aCons (eCall (cutM (makeM 2 m_Pattern___init__)) (aCons (eVar 5) aNil)) aNil)) (eK .non)))
  (sSeq (sFor (iSeqC (eOp bAdd (eL (mRg2 (eK (.int 1)) (eK (.int 15)))) (eL (aLim (aCons (eK (.int 40)) (aCons (eK (.int 56)) (aCons (eK (.int 57)) (aCons (eOp bPow (eK (.int 10)) (eK (.int 30))) aNil)))))))) (mgName 10) (sSeq (sSet 11 (eAnd (eVar 8) (eCall m_law_held (aCons (eVar 4) (aCons (eVar 10) aNil)))))
  (sSeq (sIf (bNot (bTest (eCall m_law_judge (aCons (eTup (aCons (eK (.str "held")) (aCons (eVar 5) (aCons (eVar 10) aNil)))) (aCons (eK .non) (aCons (eVar 11) aNil)))))) (sRet (eK (.bl false))) sNil)
  (sSeq (sIf (bTest (eOp bNe (eCall fRepr (aCons (eCall m_accepts (aCons (eTup (aCons (eK (.str "held")) (aCons (eVar 6) (aCons (eVar 10) aNil)))) (aCons (eK .non) aNil))) aNil)) (eCall fRepr (aCons (eVar 11) aNil)))) (sRet (eK (.bl false))) sNil)
  (sIf (bAnd (bTest (eVar 8)) (bTest (eOp bNe (eVar 11) (eAnd (eOp bIsn (eVar 9) (eK .non)) (eOp bGe (eVar 10) (eVar 9)))))) (sRet (eK (.bl false))) sNil)))))
  (sSeq (sSet 12 (eCall m_law_of (aCons (eVar 0) (aCons (eL (aLim (aCons (eTup aNil) (aCons (eK (.int 0)) (aCons (eK (.bl false)) (aCons (eK (.str "")) (aCons (eK (.bl true)) (aCons (eTup (aCons (eK .non) aNil)) (aCons eDNew (aCons (eL (aLim aNil)) aNil)))))))))) aNil))))
  (sIf (bNot (bTest (eCall m_law_judge (aCons (eTup (aCons (eK (.str "held")) (aCons (eVar 5) (aCons (eOp bPow (eK (.int 10)) (eK (.int 30))) aNil)))) (aCons (eVar 12) (aCons (eK (.bl false)) aNil)))))) (sRet (eK (.bl false))) sNil)))))))))))))
  (sRet (eK (.bl true))))
def m_law_right : List T → VH → Res T := defM 13 1 s_law_right

def s_law : MS := (sRet (eCall fAll (aCons (eL (mLc (iRange1 (aCons (eCall fMax2 (aCons (eK (.int 2)) (aCons (eCall fMin2 (aCons (eCall fLen (aCons (eVar 0) aNil)) (aCons (eK (.int 4)) aNil))) aNil))) aNil)) [1] (mgName 1) bYes (eCall m_law_right (aCons (eCall m_law_bag (aCons (eVar 0) (aCons (eVar 1) aNil))) aNil)))) aNil)))
def m_law : List T → VH → Res T := defM 2 1 s_law

end K57

set_option Elab.async false
set_option linter.all false
set_option maxRecDepth 100000
set_option maxHeartbeats 4000000
namespace K57
open K33
open K58
open PySem L2 TL KG
section
variable {G G' : List (List Nat)} {W H : Nat}
/-- the figures are figures -/
structure Fig (G : List (List Nat)) (W H : Nat) : Prop where
  dg : Digs G
  lt : ∀ x y, cell G W H x y < 10
  n5 : ∀ x y, cell G W H x y ≠ 5
theorem Fig.of (D : Dim G W H) (A : Digs G) : Fig G W H := by
  have m : ∀ x y, cell G W H x y ∈ rowAt G H y := fun x y => by
    unfold cell
    have hl := D.row _ (D.rowAt_mem y)
    have := mod_lt' x D.w0
    rw [List.getD_eq_getElem?_getD, List.getElem?_eq_getElem (by rw [hl]; exact this)]
    exact List.getElem_mem _
  exact ⟨A, fun x y => A.lt _ (D.rowAt_mem y) _ (m x y), fun x y => A.n5 _ (D.rowAt_mem y) _ (m x y)⟩
theorem Fig.ofMut (D : Dim G W H) (M : K33.Mut G W H) : Fig G W H := ⟨mut_digs D M, M.lt, M.n5⟩
/-- the partner looks back -/
def mAt (G : List (List Nat)) (W H : Nat) (x y : Int) : Bool := decide (cell G W H x y = 0) || decide (cell G W H (x + sx (cell G W H x y)) (y + sy (cell G W H x y)) + cell G W H x y = 10)
def mRow (G : List (List Nat)) (W H : Nat) (y : Int) : Bool := (List.range W).all fun x => mAt G W H (x : Nat) y
def mAll (G : List (List Nat)) (W H : Nat) : Bool := (List.range H).all fun y => mRow G W H (y : Nat)
theorem mAll_iff (D : Dim G W H) (F : Fig G W H) : mAll G W H = true ↔ K33.Mut G W H := by
  constructor
  · intro z
    refine ⟨F.lt, F.n5, fun x y nz => ?_⟩
    obtain ⟨x', ex, hx⟩ := mod_ix x D.w0
    obtain ⟨y', ey, hy⟩ := mod_ix y D.h0
    have q := List.all_eq_true.mp (List.all_eq_true.mp z y' (List.mem_range.mpr hy)) x' (List.mem_range.mpr hx)
    have xx : (x' : Int) % W = x' := Int.emod_eq_of_lt (by omega) (by omega)
    have yy : (y' : Int) % H = y' := Int.emod_eq_of_lt (by omega) (by omega)
    have e : cell G W H x' y' = cell G W H x y := cell_congr (by rw [ex, xx]) (by rw [ey, yy])
    unfold mAt at q
    rw [e, Bool.or_eq_true, decide_eq_true_eq, decide_eq_true_eq] at q
    have e2 : cell G W H (x' + sx (cell G W H x y)) (y' + sy (cell G W H x y)) = cell G W H (x + sx (cell G W H x y)) (y + sy (cell G W H x y)) := cell_congr (by rw [← ex, Int.emod_add_emod]) (by rw [← ey, Int.emod_add_emod])
    rw [e2] at q
    exact q.resolve_left nz
  · intro M
    refine List.all_eq_true.mpr fun y _ => List.all_eq_true.mpr fun x _ => ?_
    unfold mAt
    rw [Bool.or_eq_true, decide_eq_true_eq, decide_eq_true_eq]
    by_cases q : cell G W H (x : Nat) (y : Nat) = 0
    · exact .inl q
    · exact .inr (M.mate _ _ q)
theorem mutual_gen (D : Dim G W H) (F : Fig G W H) (x y : Int) (h : VH) : m_is_mutual_at [rowsT G, .int x, .int y] h = .ok (.bl (mAt G W H x y)) h := by
  obtain ⟨d, hd⟩ : ∃ d, d = cell G W H x y := ⟨_, rfl⟩
  have d10 : d < 10 := by rw [hd]; exact F.lt x y
  have d5 : d ≠ 5 := by rw [hd]; exact F.n5 x y
  have em : mAt G W H x y = (decide (d = 0) || decide (cell G W H (x + sx d) (y + sy d) + d = 10)) := by unfold mAt; rw [← hd]
  rw [em]
  have s1 : (sSet 3 (eCall m_sign_at (aCons (eVar 0) (aCons (eVar 1) (aCons (eVar 2) aNil))))) (startT 6 [rowsT G, .int x, .int y]) h = .nx [some (rowsT G), some (.int x), some (.int y), some (sg d), none, none] h := by
    refine (set_ok (i := 3) ((call_ok (ts := [rowsT G, .int x, .int y]) rfl).trans (sign_ok D x y h))).trans ?_
    rw [← hd]
    rfl
  have t1 : bTest (eOp TL.bEq (eVar 3) (eK (.str "0"))) [some (rowsT G), some (.int x), some (.int y), some (sg d), none, none] h = .ok (decide (d = 0)) h := test_ok ((op_ok rfl rfl).trans (eq_zero d h))
  by_cases z : d = 0
  · rw [decide_eq_true z] at t1 ⊢
    exact defM_rt rfl ((seq_nx s1).trans (seq_rt ((if_t t1).trans (ret_ok rfl))))
  · rw [decide_eq_false z] at t1 ⊢
    have sh := sh_dig d d10 d5 z
    rw [← steps_eq] at sh
    have s3 : (sAsg (eIxK kv_STEPS (eVar 3)) (mgTup 2 (mgsCons (mgName 4) (mgsCons (mgName 5) mgsNil)))) [some (rowsT G), some (.int x), some (.int y), some (sg d), none, none] h = .nx [some (rowsT G), some (.int x), some (.int y), some (sg d), some (.int (sx d)), some (.int (sy d))] h := by
      simp only [sAsg, eIxK, eVar, List.getElem?_cons_succ, List.getElem?_cons_zero, sh, mgTup, mgsCons, mgsNil, mgName, List.length_cons, List.length_nil, Nat.reduceAdd, if_true, List.set_cons_succ, List.set_cons_zero]
    obtain ⟨τ, hτ⟩ : ∃ τ, τ = [some (rowsT G), some (T.int x), some (.int y), some (sg d), some (.int (sx d)), some (.int (sy d))] := ⟨_, rfl⟩
    rw [← hτ] at s3
    have v0 : eVar 0 τ h = .ok (rowsT G) h := by rw [hτ]; rfl
    have v1 : eVar 1 τ h = .ok (.int x) h := by rw [hτ]; rfl
    have v2 : eVar 2 τ h = .ok (.int y) h := by rw [hτ]; rfl
    have v3 : eVar 3 τ h = .ok (sg d) h := by rw [hτ]; rfl
    have v4 : eVar 4 τ h = .ok (.int (sx d)) h := by rw [hτ]; rfl
    have v5 : eVar 5 τ h = .ok (.int (sy d)) h := by rw [hτ]; rfl
    have nil : aNil τ h = .ok [] h := rfl
    have q10 := F.lt (x + sx d) (y + sy d)
    have q5 := F.n5 (x + sx d) (y + sy d)
    have A1 := (call_ok (b := m_sign_at) (cons_ok v0 (cons_ok ((op_ok (b := TL.bAdd) v1 v4).trans (add_i _ _ _)) (cons_ok ((op_ok (b := TL.bAdd) v2 v5).trans (add_i _ _ _)) nil)))).trans (sign_ok D _ _ h)
    have A2 := (call_ok (b := fInt) (cons_ok A1 nil)).trans (fInt_dig h _ q10 q5)
    have A3 := (call_ok (b := fInt) (cons_ok v3 nil)).trans (fInt_dig h d d10 d5)
    have A4 := (op_ok (b := TL.bSub) (rfl : eK (.int 10) τ h = .ok (.int 10) h) A3).trans (sub_int _ _ _)
    have A5 := (op_ok (b := TL.bEq) A2 A4).trans (eq_int _ _ _)
    have eb : decide (((cell G W H (x + sx d) (y + sy d) : Nat) : Int) = 10 - (d : Int)) = (false || decide (cell G W H (x + sx d) (y + sy d) + d = 10)) := by
      rw [Bool.false_or]
      exact decide_eq_decide.mpr ⟨fun z => by omega, fun z => by omega⟩
    rw [eb] at A5
    exact defM_rt rfl ((seq_nx s1).trans ((seq_nx ((if_f t1).trans rfl)).trans ((seq_nx s3).trans (ret_ok A5))))
theorem all_gen {α : Type} (l : List α) (f : α → Bool) (h : VH) : fAll [.lst (l.map fun a => T.bl (f a))] h = .ok (.bl (l.all f)) h := by
  have e : blsOf (l.map fun a => T.bl (f a)) = some (l.map f) := by
    have := blsOf_map (l.map f)
    rw [List.map_map] at this
    exact this
  unfold fAll fBls
  simp only [TL.listOf, e]
  refine congrArg (fun z => Res.ok (T.bl z) h) ?_
  rw [List.all_map]
  rfl
theorem any_gen {α : Type} (l : List α) (f : α → Bool) (h : VH) : fAny [.lst (l.map fun a => T.bl (f a))] h = .ok (.bl (l.any f)) h := by
  have e : blsOf (l.map fun a => T.bl (f a)) = some (l.map f) := by
    have := blsOf_map (l.map f)
    rw [List.map_map] at this
    exact this
  unfold fAny fBls
  simp only [TL.listOf, e]
  refine congrArg (fun z => Res.ok (T.bl z) h) ?_
  rw [List.any_map]
  rfl
theorem tile_gen (D : Dim G W H) (F : Fig G W H) (h : VH) : m_tile_told [.str (spell G)] h = .ok (if mAll G W H then rowsT G else .non) h := by
  have h1 := D.h1
  have w1 := D.w1
  have s1 : (sSet 1 (eCall m_rows_told (aCons (eVar 0) aNil))) (startT 5 [.str (spell G)]) h = .nx [some (.str (spell G)), some (rowsT G), none, none, none] h := by
    refine (set_ok (i := 1) ((call_ok (ts := [.str (spell G)]) rfl).trans (rowsTold_ok D F.dg h))).trans ?_
    rfl
  obtain ⟨r0, l0, l1⟩ := first_len D h
  have t1 : bTest (eOp bIs (eVar 1) (eK .non)) [some (.str (spell G)), some (rowsT G), none, none, none] h = .ok false h := rfl
  have nil : ∀ τ, aNil τ h = .ok [] h := fun _ => rfl
  have inner : ∀ (y : Nat) (c : Option T), mLc (iRange1 (aCons (eCall fLen (aCons (eOp TL.bIx (eVar 1) (eK (.int 0))) aNil)) aNil)) [4] (mgName 4) bYes (eCall m_is_mutual_at (aCons (eVar 1) (aCons (eVar 4) (aCons (eVar 3) aNil)))) [some (.str (spell G)), some (rowsT G), none, some (.int (y : Nat)), c] h = .ok ((List.range W).map fun (x : Nat) => .bl (mAt G W H (x : Nat) (y : Nat))) h := by
    intro y c
    have L2' := (call_ok (b := fLen) (cons_ok ((op_ok (b := TL.bIx) (rfl : eVar 1 [some (.str (spell G)), some (rowsT G), none, some (.int (y : Nat)), c] h = .ok (rowsT G) h) (rfl : eK (.int 0) [some (.str (spell G)), some (rowsT G), none, some (.int (y : Nat)), c] h = .ok (.int 0) h)).trans l0) (nil _))).trans l1
    have z := mLc_map (mi := iRange1 (aCons (eCall fLen (aCons (eOp TL.bIx (eVar 1) (eK (.int 0))) aNil)) aNil)) (ws := [4]) (g := mgName 4) (e := eCall m_is_mutual_at (aCons (eVar 1) (aCons (eVar 4) (aCons (eVar 3) aNil)))) (τ := [some (.str (spell G)), some (rowsT G), none, some (.int (y : Nat)), c]) (h := h) (rd := fun _ => some (rangeT 0 W)) (ts := rangeT 0 W)
      (rng_ok (cons_ok L2' rfl) (by omega)) rfl (by rw [range_len]; omega) (fun t => match t with | .int i => .bl (mAt G W H i (y : Nat)) | t => t) (fun t ht => by
        obtain ⟨i, hi, rfl⟩ := List.getElem_of_mem ht
        obtain ⟨hi2, ei⟩ := range_at hi
        rw [ei, Int.zero_add]
        exact ⟨[some (.str (spell G)), some (rowsT G), none, some (.int (y : Nat)), some (.int (i : Nat))], rfl, (call_ok (ts := [rowsT G, .int (i : Nat), .int (y : Nat)]) rfl).trans (mutual_gen D F _ _ h)⟩)
    rw [z]
    unfold rangeT
    rw [List.map_map]
    refine congrArg (fun l => Res.ok l h) (List.map_congr_left fun x _ => ?_)
    simp only [Function.comp, Int.zero_add]
  have s3 : (sSet 2 (eL (mLc (iRange1 (aCons (eCall fLen (aCons (eVar 1) aNil)) aNil)) [3] (mgName 3) bYes (eCall fAll (aCons (eL (mLc (iRange1 (aCons (eCall fLen (aCons (eOp TL.bIx (eVar 1) (eK (.int 0))) aNil)) aNil)) [4] (mgName 4) bYes (eCall m_is_mutual_at (aCons (eVar 1) (aCons (eVar 4) (aCons (eVar 3) aNil)))))) aNil))))) [some (.str (spell G)), some (rowsT G), none, none, none] h = .nx [some (.str (spell G)), some (rowsT G), some (.lst ((List.range H).map fun (y : Nat) => .bl (mRow G W H (y : Nat)))), none, none] h := by
    have L1 := (call_ok (b := fLen) (cons_ok (rfl : eVar 1 [some (.str (spell G)), some (rowsT G), none, none, none] h = .ok (rowsT G) h) (nil _))).trans (rows_len D h)
    have z := mLc_map (mi := iRange1 (aCons (eCall fLen (aCons (eVar 1) aNil)) aNil)) (ws := [3]) (g := mgName 3) (e := eCall fAll (aCons (eL (mLc (iRange1 (aCons (eCall fLen (aCons (eOp TL.bIx (eVar 1) (eK (.int 0))) aNil)) aNil)) [4] (mgName 4) bYes (eCall m_is_mutual_at (aCons (eVar 1) (aCons (eVar 4) (aCons (eVar 3) aNil)))))) aNil)) (τ := [some (.str (spell G)), some (rowsT G), none, none, none]) (h := h) (rd := fun _ => some (rangeT 0 H)) (ts := rangeT 0 H)
      (rng_ok (cons_ok L1 rfl) (by omega)) rfl (by rw [range_len]; omega) (fun t => match t with | .int i => .bl (mRow G W H i) | t => t) (fun t ht => by
        obtain ⟨i, hi, rfl⟩ := List.getElem_of_mem ht
        obtain ⟨hi2, ei⟩ := range_at hi
        rw [ei, Int.zero_add]
        exact ⟨[some (.str (spell G)), some (rowsT G), none, some (.int (i : Nat)), none], rfl, (call_ok (cons_ok (eL_ok (inner i none)) rfl)).trans (all_gen (List.range W) (fun (x : Nat) => mAt G W H (x : Nat) (i : Nat)) h)⟩)
    refine (set_ok (i := 2) (eL_ok z)).trans ?_
    unfold rangeT
    rw [List.map_map]
    have : (List.range H).map ((fun t => match t with | T.int i => T.bl (mRow G W H i) | t => t) ∘ fun (i : Nat) => T.int (0 + (i : Int))) = (List.range H).map fun (y : Nat) => .bl (mRow G W H (y : Nat)) := List.map_congr_left fun x _ => by simp only [Function.comp, Int.zero_add]
    rw [this]
    rfl
  have t2 : bTest (eCall fAll (aCons (eVar 2) aNil)) [some (.str (spell G)), some (rowsT G), some (.lst ((List.range H).map fun (y : Nat) => .bl (mRow G W H (y : Nat)))), none, none] h = .ok (mAll G W H) h := test_ok ((call_ok (ts := [.lst ((List.range H).map fun (y : Nat) => .bl (mRow G W H (y : Nat)))]) rfl).trans (all_gen (List.range H) (fun (y : Nat) => mRow G W H (y : Nat)) h))
  refine defM_rt rfl ((seq_nx s1).trans ((seq_nx ((if_f t1).trans rfl)).trans ((seq_nx s3).trans (ret_ok ?_))))
  unfold eIf
  rw [t2]
  cases mAll G W H <;> rfl
end
end K57

set_option Elab.async false
set_option linter.all false
set_option maxRecDepth 100000
set_option maxHeartbeats 4000000
namespace K57
open K33
open K58
open PySem L2 TL KG
section
variable {G G' : List (List Nat)} {W H : Nat}
theorem row_nat (D : Dim G W H) {y : Nat} (hy : y < H) (h : VH) : TL.bIx (rowsT G) (.int (y : Nat)) h = .ok (.str (rowS (rowAt G H (y : Nat)))) h := by
  have := ixT_row D (y : Nat) h
  rwa [Int.emod_eq_of_lt (by omega) (by omega)] at this
theorem sign_nat (D : Dim G W H) {x : Nat} (hx : x < W) (y : Int) (h : VH) : TL.bIx (.str (rowS (rowAt G H y))) (.int (x : Nat)) h = .ok (sg (cell G W H (x : Nat) y)) h := by
  have := ixT_sign D (x : Nat) y h
  rwa [Int.emod_eq_of_lt (by omega) (by omega)] at this
theorem ne_zero (d : Nat) (h : VH) : bNe (sg d) (.str "0") h = .ok (.bl (!decide (d = 0))) h := by
  unfold bNe bEqG
  simp only [dat_str]
  rw [dig_zero]
theorem ne_int (p q : Int) (h : VH) : bNe (.int p) (.int q) h = .ok (.bl (!decide (p = q))) h := by
  unfold bNe bEqG
  simp only [dat_int, PyData.eqv]
  refine congrArg (fun z => Res.ok (T.bl z) h) ?_
  by_cases c : p = q <;> simp [c]
abbrev ist (G : List (List Nat)) (W H : Nat) (y x s t a b : Option T) : TS_ := [some (rowsT G), some (.int (W : Nat)), some (.int (H : Nat)), y, x, s, t, a, b]
def ib1 : MS := (sSet 5 (eOp TL.bIx (eOp TL.bIx (eVar 0) (eVar 3)) (eVar 4)))
def ib2 : MS := (sSet 6 (eCall m_law_ahead (aCons (eVar 5) aNil)))
def ib3 : MS := (sPar 7 8 (aCons (eOp TL.bMod (eCall fInt (aCons (eOp TL.bAdd (eVar 4) (eOp TL.bIx (eVar 6) (eK (.int 0)))) aNil)) (eVar 1)) (aCons (eOp TL.bMod (eCall fInt (aCons (eOp TL.bAdd (eVar 3) (eOp TL.bIx (eVar 6) (eK (.int 1)))) aNil)) (eVar 2)) aNil)))
def ib4 : MB := (bTest (eOp bNe (eOp TL.bAdd (eCall fInt (aCons (eOp TL.bIx (eOp TL.bIx (eVar 0) (eVar 8)) (eVar 7)) aNil)) (eCall fInt (aCons (eVar 5) aNil))) (eK (.int 10))))
def ibB : MS := sSeq ib1 (sIf (bTest (eOp bNe (eVar 5) (eK (.str "0")))) (sSeq ib2 (sSeq ib3 (sIf ib4 (sRet (eK (.bl false))) sNil))) sNil)
theorem is_eq : s_law_is_tile = sSeq (sPar 1 2 (aCons (eCall fLen (aCons (eOp TL.bIx (eVar 0) (eK (.int 0))) aNil)) (aCons (eCall fLen (aCons (eVar 0) aNil)) aNil))) (sSeq (sFor (iRange1 (aCons (eVar 2) aNil)) (mgName 3) (sFor (iRange1 (aCons (eVar 1) aNil)) (mgName 4) ibB)) (sRet (eK (.bl true)))) := rfl
theorem ib_ok (D : Dim G W H) (F : Fig G W H) {y x : Nat} (hy : y < H) (hx : x < W) {h : VH} (hf : h.all (VO.lowR h.length) = true) (s t a b : Option T) : ∃ (s' t' a' b' : Option T), ibB (ist G W H (some (.int (y : Nat))) (some (.int (x : Nat))) s t a b) h = if mAt G W H (x : Nat) (y : Nat) = true then .nx (ist G W H (some (.int (y : Nat))) (some (.int (x : Nat))) s' t' a' b') h else .rt (.bl false) h := by
  obtain ⟨d, hd⟩ : ∃ d, d = cell G W H (x : Nat) (y : Nat) := ⟨_, rfl⟩
  have d10 : d < 10 := by rw [hd]; exact F.lt _ _
  have d5 : d ≠ 5 := by rw [hd]; exact F.n5 _ _
  have em : mAt G W H (x : Nat) (y : Nat) = (decide (d = 0) || decide (cell G W H (x + sx d) (y + sy d) + d = 10)) := by unfold mAt; rw [← hd]
  rw [em]
  have w0 := D.w0
  have h0 := D.h0
  have s1 : ib1 (ist G W H (some (.int (y : Nat))) (some (.int (x : Nat))) s t a b) h = .nx (ist G W H (some (.int (y : Nat))) (some (.int (x : Nat))) (some (sg d)) t a b) h := by
    have z := (op_ok (b := TL.bIx) ((op_ok (b := TL.bIx) (rfl : eVar 0 (ist G W H (some (.int (y : Nat))) (some (.int (x : Nat))) s t a b) h = .ok (rowsT G) h) (rfl : eVar 3 (ist G W H (some (.int (y : Nat))) (some (.int (x : Nat))) s t a b) h = .ok (.int (y : Nat)) h)).trans (row_nat D hy h)) (rfl : eVar 4 (ist G W H (some (.int (y : Nat))) (some (.int (x : Nat))) s t a b) h = .ok (.int (x : Nat)) h)).trans (sign_nat D hx _ h)
    rw [← hd] at z
    exact (set_ok (i := 5) z).trans rfl
  have t1 : bTest (eOp bNe (eVar 5) (eK (.str "0"))) (ist G W H (some (.int (y : Nat))) (some (.int (x : Nat))) (some (sg d)) t a b) h = .ok (!decide (d = 0)) h := test_ok ((op_ok rfl rfl).trans (ne_zero d h))
  by_cases z : d = 0
  · rw [decide_eq_true z] at t1 ⊢
    exact ⟨some (sg d), t, a, b, (seq_nx s1).trans ((if_f t1).trans (by rfl))⟩
  · rw [decide_eq_false z] at t1 ⊢
    have ah := ahead_ok d10 d5 z hf
    have s2 : ib2 (ist G W H (some (.int (y : Nat))) (some (.int (x : Nat))) (some (sg d)) t a b) h = .nx (ist G W H (some (.int (y : Nat))) (some (.int (x : Nat))) (some (sg d)) (some (.tup [.int (sx d), .int (sy d)])) a b) h := (set_ok (i := 6) ((call_ok (ts := [sg d]) rfl).trans ah)).trans rfl
    obtain ⟨τ, hτ⟩ : ∃ τ, τ = ist G W H (some (.int (y : Nat))) (some (.int (x : Nat))) (some (sg d)) (some (.tup [.int (sx d), .int (sy d)])) a b := ⟨_, rfl⟩
    have nil : aNil τ h = .ok [] h := rfl
    have v1 : eVar 1 τ h = .ok (.int (W : Nat)) h := by rw [hτ]; rfl
    have v2 : eVar 2 τ h = .ok (.int (H : Nat)) h := by rw [hτ]; rfl
    have v3 : eVar 3 τ h = .ok (.int (y : Nat)) h := by rw [hτ]; rfl
    have v4 : eVar 4 τ h = .ok (.int (x : Nat)) h := by rw [hτ]; rfl
    have v6 : eVar 6 τ h = .ok (.tup [.int (sx d), .int (sy d)]) h := by rw [hτ]; rfl
    have A0 : eOp TL.bIx (eVar 6) (eK (.int 0)) τ h = .ok (.int (sx d)) h := (op_ok (b := TL.bIx) v6 (rfl : eK (.int 0) τ h = .ok (.int 0) h)).trans rfl
    have A1 : eOp TL.bIx (eVar 6) (eK (.int 1)) τ h = .ok (.int (sy d)) h := (op_ok (b := TL.bIx) v6 (rfl : eK (.int 1) τ h = .ok (.int 1) h)).trans rfl
    have B0 := (op_ok (b := TL.bMod) ((call_ok (b := fInt) (cons_ok ((op_ok (b := TL.bAdd) v4 A0).trans (add_i _ _ _)) nil)).trans (fInt_int _ _)) v1).trans (mod_ok (by omega) h)
    have B1 := (op_ok (b := TL.bMod) ((call_ok (b := fInt) (cons_ok ((op_ok (b := TL.bAdd) v3 A1).trans (add_i _ _ _)) nil)).trans (fInt_int _ _)) v2).trans (mod_ok (by omega) h)
    have s3 : ib3 τ h = .nx (ist G W H (some (.int (y : Nat))) (some (.int (x : Nat))) (some (sg d)) (some (.tup [.int (sx d), .int (sy d)])) (some (.int (((x : Nat) + sx d) % W))) (some (.int (((y : Nat) + sy d) % H)))) h := by
      unfold ib3 sPar
      rw [cons_ok B0 (cons_ok B1 nil), hτ]
      rfl
    rw [← hτ] at s2
    obtain ⟨τ2, hτ2⟩ : ∃ τ2, τ2 = ist G W H (some (.int (y : Nat))) (some (.int (x : Nat))) (some (sg d)) (some (.tup [.int (sx d), .int (sy d)])) (some (.int (((x : Nat) + sx d) % W))) (some (.int (((y : Nat) + sy d) % H))) := ⟨_, rfl⟩
    rw [← hτ2] at s3
    have u0 : eVar 0 τ2 h = .ok (rowsT G) h := by rw [hτ2]; rfl
    have u5 : eVar 5 τ2 h = .ok (sg d) h := by rw [hτ2]; rfl
    have u7 : eVar 7 τ2 h = .ok (.int (((x : Nat) + sx d) % W)) h := by rw [hτ2]; rfl
    have u8 : eVar 8 τ2 h = .ok (.int (((y : Nat) + sy d) % H)) h := by rw [hτ2]; rfl
    have nil2 : aNil τ2 h = .ok [] h := rfl
    have C0 := (op_ok (b := TL.bIx) ((op_ok (b := TL.bIx) u0 u8).trans (ixT_row D _ h)) u7).trans (ixT_sign D _ _ h)
    have C1 := (call_ok (b := fInt) (cons_ok C0 nil2)).trans (fInt_dig h _ (F.lt _ _) (F.n5 _ _))
    have C2 := (call_ok (b := fInt) (cons_ok u5 nil2)).trans (fInt_dig h d d10 d5)
    have C3 := (op_ok (b := bNe) ((op_ok (b := TL.bAdd) C1 C2).trans (add_i _ _ _)) (rfl : eK (.int 10) τ2 h = .ok (.int 10) h)).trans (ne_int _ _ h)
    have eb : decide (((cell G W H (x + sx d) (y + sy d) : Nat) : Int) + (d : Int) = 10) = decide (cell G W H (x + sx d) (y + sy d) + d = 10) := decide_eq_decide.mpr ⟨fun z => by omega, fun z => by omega⟩
    rw [eb] at C3
    have t4 : ib4 τ2 h = .ok (!decide (cell G W H (x + sx d) (y + sy d) + d = 10)) h := test_ok C3
    refine ⟨some (sg d), some (.tup [.int (sx d), .int (sy d)]), some (.int (((x : Nat) + sx d) % W)), some (.int (((y : Nat) + sy d) % H)), (seq_nx s1).trans ((if_t t1).trans ((seq_nx s2).trans ((seq_nx s3).trans ?_)))⟩
    rw [Bool.false_or]
    cases q : decide (cell G W H (x + sx d) (y + sy d) + d = 10) with
    | true => rw [q] at t4; rw [if_pos rfl, ← hτ2]; exact (if_f t4).trans rfl
    | false => rw [q] at t4; rw [if_neg Bool.false_ne_true]; exact (if_t t4).trans rfl
theorem isTile_ok (D : Dim G W H) (F : Fig G W H) {h : VH} (hf : h.all (VO.lowR h.length) = true) : m_law_is_tile [rowsT G] h = .ok (.bl (mAll G W H)) h := by
  obtain ⟨r0, l0, l1⟩ := first_len D h
  have S1 : (sPar 1 2 (aCons (eCall fLen (aCons (eOp TL.bIx (eVar 0) (eK (.int 0))) aNil)) (aCons (eCall fLen (aCons (eVar 0) aNil)) aNil))) (startT 9 [rowsT G]) h = .nx (ist G W H none none none none none none) h := by
    have et : startT 9 [rowsT G] = [some (rowsT G), none, none, none, none, none, none, none, none] := rfl
    rw [et]
    simp only [sPar, aCons, aNil, eCall, eOp, eVar, eK, List.getElem?_cons_succ, List.getElem?_cons_zero, l0, l1, rows_len D, List.set_cons_succ, List.set_cons_zero]
  have main := sFor_or (mi := iRange1 (aCons (eVar 2) aNil)) (g := mgName 3) (body := sFor (iRange1 (aCons (eVar 1) aNil)) (mgName 4) ibB) (τ := ist G W H none none none none none none) (h := h) (h1 := h) (rd := fun _ => some (rangeT 0 H)) (ts := rangeT 0 H)
    (fun i τ h' => (∃ (y x s t a b : Option T), τ = ist G W H y x s t a b) ∧ h' = h ∧ ∀ y : Nat, y < i → mRow G W H (y : Nat) = true)
    (fun t h' => t = .bl false ∧ h' = h ∧ mAll G W H = false) (rng_ok rfl (by have := D.h1; omega)) ⟨⟨_, _, _, _, _, _, rfl⟩, rfl, fun y hy => by omega⟩ (fun _ _ _ _ => rfl) (fun y hy τ h' J => by
      obtain ⟨⟨y0, x0, s0, t0, a0, b0, rfl⟩, rfl, yes⟩ := J
      obtain ⟨hy2, ey⟩ := range_at hy
      rw [ey, Int.zero_add]
      refine ⟨ist G W H (some (.int (y : Nat))) x0 s0 t0 a0 b0, _, rfl, ?_⟩
      have inner := sFor_or (mi := iRange1 (aCons (eVar 1) aNil)) (g := mgName 4) (body := ibB) (τ := ist G W H (some (.int (y : Nat))) x0 s0 t0 a0 b0) (h := h') (h1 := h') (rd := fun _ => some (rangeT 0 W)) (ts := rangeT 0 W)
        (fun j τ h2 => (∃ (x s t a b : Option T), τ = ist G W H (some (.int (y : Nat))) x s t a b) ∧ h2 = h' ∧ ∀ x : Nat, x < j → mAt G W H (x : Nat) (y : Nat) = true)
        (fun t h2 => t = .bl false ∧ h2 = h' ∧ mAll G W H = false) (rng_ok rfl (by have := D.w1; omega)) ⟨⟨_, _, _, _, _, rfl⟩, rfl, fun x hx => by omega⟩ (fun _ _ _ _ => rfl) (fun x hx τ h2 J => by
          obtain ⟨⟨x1, s1, t1, a1, b1, rfl⟩, rfl, yes1⟩ := J
          obtain ⟨hx2, ex⟩ := range_at hx
          rw [ex, Int.zero_add]
          refine ⟨ist G W H (some (.int (y : Nat))) (some (.int (x : Nat))) s1 t1 a1 b1, _, rfl, ?_⟩
          obtain ⟨s', t', a', b', z⟩ := ib_ok D F hy2 hx2 hf s1 t1 a1 b1
          cases q : mAt G W H (x : Nat) (y : Nat) with
          | true =>
            rw [q, if_pos rfl] at z
            refine .inl ⟨_, _, z, ⟨_, _, _, _, _, rfl⟩, rfl, fun x' hx' => ?_⟩
            by_cases c : x' = x
            · rw [c]; exact q
            · exact yes1 x' (by omega)
          | false =>
            rw [q, if_neg Bool.false_ne_true] at z
            refine .inr ⟨_, _, z, rfl, rfl, ?_⟩
            cases am : mAll G W H with
            | false => rfl
            | true =>
              have := List.all_eq_true.mp (List.all_eq_true.mp am y (List.mem_range.mpr hy2)) x (List.mem_range.mpr hx2)
              rw [q] at this
              cases this)
      rw [range_len] at inner
      rcases inner with ⟨τ2, h2, z, ⟨x1, s1, t1, a1, b1, rfl⟩, rfl, yes1⟩ | ⟨t, h2, z, rfl, rfl, q⟩
      · refine .inl ⟨_, _, z, ⟨_, _, _, _, _, _, rfl⟩, rfl, fun y' hy' => ?_⟩
        by_cases c : y' = y
        · rw [c]; exact List.all_eq_true.mpr fun x hx => yes1 x (List.mem_range.mp hx)
        · exact yes y' (by omega)
      · exact .inr ⟨_, _, z, rfl, rfl, q⟩)
  rw [range_len] at main
  rcases main with ⟨τ2, h2, z, ⟨y1, x1, s1', t1, a1, b1, rfl⟩, rfl, yes⟩ | ⟨t, h2, z, rfl, rfl, q⟩
  · have : mAll G W H = true := List.all_eq_true.mpr fun y hy => yes y (List.mem_range.mp hy)
    rw [this]
    show defM 9 1 s_law_is_tile _ _ = _
    rw [is_eq]
    exact defM_rt rfl ((seq_nx S1).trans ((seq_nx z).trans (ret_ok rfl)))
  · rw [q]
    show defM 9 1 s_law_is_tile _ _ = _
    rw [is_eq]
    exact defM_rt rfl ((seq_nx S1).trans (seq_rt z))
/-! no run is free, in all four ways -/
def four : List Nat := [6, 8, 9, 7]
theorem four_ok {a : Nat} (m : a ∈ four) : a < 10 ∧ a ≠ 5 ∧ a ≠ 0 := by
  simp only [four, List.mem_cons, List.not_mem_nil, or_false] at m
  omega
/-- all runs of so many cells have a pair -/
def Held (G : List (List Nat)) (W H : Nat) (n : Int) : Prop := ∀ a, a ∈ four → ¬ Run G W H a n
theorem held_ok' (D : Dim G W H) {n : Int} (hn : 0 < n) {h : VH} (hf : h.all (VO.lowR h.length) = true) : ∃ b, m_law_held [rowsT G, .int n] h = .ok (.bl b) h ∧ (b = true ↔ Held G W H n) := by
  classical
  have one : ∀ a, a ∈ four → m_law_run_free [rowsT G, sg a, .int n] h = .ok (.bl (decide (Run G W H a n))) h := fun a m => by
    obtain ⟨m1, m2, m3⟩ := four_ok m
    obtain ⟨b, e, i⟩ := run_ok D m1 m2 m3 hn hf
    rw [e]
    refine congrArg (fun z => Res.ok (T.bl z) h) ?_
    rw [Bool.eq_iff_iff, i, decide_eq_true_eq]
  refine ⟨!(four.any fun a => decide (Run G W H a n)), ?_, ?_⟩
  · have z := mLc_map (mi := iSeqC (eL (aLim (aCons (eK (.str "6")) (aCons (eK (.str "8")) (aCons (eK (.str "9")) (aCons (eK (.str "7")) aNil))))))) (ws := [2]) (g := mgName 2) (e := eCall m_law_run_free (aCons (eVar 0) (aCons (eVar 2) (aCons (eVar 1) aNil)))) (τ := startT 3 [rowsT G, .int n]) (h := h) (rd := fun h => seqS h (.lst (four.map sg))) (ts := four.map sg)
      rfl rfl (by simp [four]) (fun t => match t with | .str z => .bl (decide (Run G W H (z.cps.getD 0 0 - 48) n)) | t => t) (fun t ht => by
        obtain ⟨a, ha, rfl⟩ := List.mem_map.mp ht
        refine ⟨[some (rowsT G), some (.int n), some (sg a)], rfl, (call_ok (ts := [rowsT G, sg a, .int n]) rfl).trans ((one a ha).trans ?_)⟩
        have : (dig a).cps.getD 0 0 - 48 = a := by simp [dig]
        simp only [this])
    rw [List.map_map] at z
    have e : (four.map ((fun t => match t with | T.str z => T.bl (decide (Run G W H (z.cps.getD 0 0 - 48) n)) | t => t) ∘ sg)) = four.map fun a => .bl (decide (Run G W H a n)) := List.map_congr_left fun a _ => by
      have : (dig a).cps.getD 0 0 - 48 = a := by simp [dig]
      simp only [Function.comp, this]
    rw [e] at z
    have q := (call_ok (b := fAny) (cons_ok (eL_ok z) (rfl : aNil (startT 3 [rowsT G, .int n]) h = .ok [] h))).trans (any_gen four (fun a => decide (Run G W H a n)) h)
    refine defM_rt rfl (ret_ok ?_)
    unfold eNot
    simp only [q]
  · rw [Bool.not_eq_true', List.any_eq_false]
    unfold Held
    simp only [decide_eq_true_eq]
end
end K57

set_option Elab.async false
set_option linter.all false
set_option maxRecDepth 100000
set_option maxHeartbeats 4000000
namespace K57
open K33
open K58
open PySem L2 TL KG
section
variable {G G' : List (List Nat)} {W H W' H' : Nat}
/-- the four words and their figures -/
def wordOf (a : Nat) : Str := if a = 6 then "e" else if a = 8 then "n" else if a = 9 then "a" else "b"
theorem way_of {a : Nat} (m : a ∈ four) : Way (wordOf a) a := by
  simp only [four, List.mem_cons, List.not_mem_nil, or_false] at m
  rcases m with rfl | rfl | rfl | rfl
  · exact way_e
  · exact way_n
  · exact way_a
  · exact way_b
theorem isl_ex (D : Dim G W H) {a : Nat} (m : a ∈ four) : ∃ r, IsL (K33.St G W H a) (sx a) (sy a) r :=
  let ⟨r, _, i⟩ := along_ok D (way_of m) (pat_at G [])
  ⟨r, i⟩
theorem run_same (D : Dim G W H) (D' : Dim G' W' H') (hc : ∀ x y, cell G' W' H' x y = cell G W H x y) {a : Nat} (m : a ∈ four) {n : Int} (hn : 0 < n) : Run G' W' H' a n ↔ Run G W H a n := by
  obtain ⟨r, i⟩ := isl_ex D' m
  have p := run_iff D' i hn
  have q := run_iff D (IsL.same hc i) hn
  cases r with
  | none => exact p.trans q.symm
  | some M => exact p.trans q.symm
theorem held_same (D : Dim G W H) (D' : Dim G' W' H') (hc : ∀ x y, cell G' W' H' x y = cell G W H x y) {n : Int} (hn : 0 < n) : Held G' W' H' n ↔ Held G W H n :=
  ⟨fun z a m => by rw [← run_same D D' hc m hn]; exact z a m, fun z a m => by rw [run_same D D' hc m hn]; exact z a m⟩
theorem mAll_same (D : Dim G W H) (F : Fig G W H) (D' : Dim G' W' H') (F' : Fig G' W' H') (hc : ∀ x y, cell G' W' H' x y = cell G W H x y) : mAll G' W' H' = mAll G W H := by
  rw [Bool.eq_iff_iff, mAll_iff D F, mAll_iff D' F']
  exact ⟨fun M => M.same fun x y => (hc x y).symm, fun M => M.same hc⟩
/-- the checker over the claim that all runs of so many cells have a pair -/
theorem acc_begin (D : Dim G W H) (F : Fig G W H) {x : Str} {ts : List T} {p : T} {n : Int} {h : VH} (hn : 0 < n) (h1 : atI (.str x :: ts) 1 = some (.str (spell G))) (hl : atI (.str x :: ts) (-1) = some (.int n)) : ∃ t, sp1 (startT 4 [.tup (.str x :: ts), p]) h = .nx [some (.tup (.str x :: ts)), some p, some t, none] h ∧
    sp2 [some (.tup (.str x :: ts)), some p, some t, none] h = .ok (!mAll G W H || !TL.isNon p) h ∧ (mAll G W H = true → t = rowsT G) := by
  refine ⟨if mAll G W H then rowsT G else .non, ?_, ?_, fun q => by rw [q]; rfl⟩
  · have f1 : eOp TL.bIx (eVar 0) (eK (.int 1)) (startT 4 [.tup (.str x :: ts), p]) h = .ok (.str (spell G)) h := (op_ok (b := TL.bIx) (rfl : eVar 0 (startT 4 [.tup (.str x :: ts), p]) h = .ok (.tup (.str x :: ts)) h) rfl).trans (by simp only [TL.bIx, h1])
    exact (set_ok (i := 2) ((call_ok (b := m_tile_told) (cons_ok f1 rfl)).trans (tile_gen D F h))).trans rfl
  · cases q : mAll G W H with
    | false => exact or_t (rfl : bTest (eOp bIs (eVar 2) (eK .non)) [some (.tup (.str x :: ts)), some p, some .non, none] h = .ok true h)
    | true =>
      obtain ⟨_, s2⟩ := sp_begin D ((mAll_iff D F).mp q) (p := p) (h := h) hn h1 hl
      exact s2
theorem acc_held (D : Dim G W H) (F : Fig G W H) {n : Int} (hn : 0 < n) (h : VH) : ∃ b, m_accepts [heC G n, .non] h = .ok (.bl b) h ∧ (b = true ↔ mAll G W H = true ∧ Held G W H n) := by
  classical
  obtain ⟨t, s1, s2, ht⟩ := acc_begin D F (x := "held") (ts := [.str (spell G), .int n]) (p := .non) (h := h) hn rfl rfl
  cases q : mAll G W H with
  | false =>
    rw [q] at s2
    refine ⟨false, acc_pat (d := .tuple [.str "held", .str (spell G), .int n]) rfl rfl rfl (in_held h) ?_ ⟨_, rfl⟩, by simp⟩
    show defM 4 2 s_shows_pattern _ _ = _
    rw [sp_eq]
    exact defM_rt rfl ((seq_nx s1).trans (seq_rt ((if_t s2).trans rfl)))
  | true =>
    obtain rfl := ht q
    rw [q] at s2
    have one : ∀ a, a ∈ four → m_has_free [rowsT G, .str (wordOf a), .int n] h = .ok (.bl (decide (Run G W H a n))) h := fun a m => by
      obtain ⟨b, e, i⟩ := has_ok D (way_of m) hn h
      rw [e]
      refine congrArg (fun z => Res.ok (T.bl z) h) ?_
      rw [Bool.eq_iff_iff, i, decide_eq_true_eq]
    refine ⟨!(four.any fun a => decide (Run G W H a n)), acc_pat (d := .tuple [.str "held", .str (spell G), .int n]) rfl rfl rfl (in_held h) ?_ ⟨_, rfl⟩, ?_⟩
    · have c3 : sp3 [some (heC G n), some .non, some (rowsT G), none] h = .ok true h := by with_unfolding_all rfl
      have z := mLc_map (mi := iKeysK kv_FIGURE_OF) (ws := [3]) (g := mgName 3) (e := eCall m_has_free (aCons (eVar 2) (aCons (eVar 3) (aCons (eOp TL.bIx (eVar 0) (eK (.int 2))) aNil)))) (τ := [some (heC G n), some .non, some (rowsT G), none]) (h := h) (rd := fun _ => some (four.map fun a => .str (wordOf a))) (ts := four.map fun a => .str (wordOf a))
        rfl rfl (by simp [four]) (fun t => match t with | .str z => .bl (decide (Run G W H ((four.find? fun a => wordOf a == z).getD 0) n)) | t => t) (fun t ht => by
          obtain ⟨a, ha, rfl⟩ := List.mem_map.mp ht
          refine ⟨[some (heC G n), some .non, some (rowsT G), some (.str (wordOf a))], rfl, (call_ok (ts := [rowsT G, .str (wordOf a), .int n]) rfl).trans ((one a ha).trans ?_)⟩
          have : (four.find? fun b => wordOf b == wordOf a).getD 0 = a := by
            simp only [four, List.mem_cons, List.not_mem_nil, or_false] at ha
            rcases ha with rfl | rfl | rfl | rfl <;> decide +kernel
          simp only [this])
      rw [List.map_map] at z
      have e : (four.map ((fun t => match t with | T.str z => T.bl (decide (Run G W H ((four.find? fun a => wordOf a == z).getD 0) n)) | t => t) ∘ fun a => T.str (wordOf a))) = four.map fun a => .bl (decide (Run G W H a n)) := List.map_congr_left fun a ha => by
        have : (four.find? fun b => wordOf b == wordOf a).getD 0 = a := by
          simp only [four, List.mem_cons, List.not_mem_nil, or_false] at ha
          rcases ha with rfl | rfl | rfl | rfl <;> decide +kernel
        simp only [Function.comp, this]
      rw [e] at z
      have q := (call_ok (b := fAny) (cons_ok (eL_ok z) (rfl : aNil [some (heC G n), some .non, some (rowsT G), none] h = .ok [] h))).trans (any_gen four (fun a => decide (Run G W H a n)) h)
      have r : sp4 [some (heC G n), some .non, some (rowsT G), none] h = .rt (.bl (!(four.any fun a => decide (Run G W H a n)))) h := by
        refine ret_ok ?_
        unfold eNot
        simp only [q]
      show defM 4 2 s_shows_pattern _ _ = _
      rw [sp_eq]
      exact defM_rt rfl ((seq_nx s1).trans ((seq_nx ((if_f s2).trans rfl)).trans (seq_rt ((if_t c3).trans r))))
    · rw [Bool.not_eq_true', List.any_eq_false]
      unfold Held
      simp
theorem acc_held_odd (D : Dim G W H) (F : Fig G W H) {n : Int} (hn : 0 < n) {p : T} (hp : TL.isNon p = false) (h : VH) : m_accepts [heC G n, p] h = .ok (.bl false) h := by
  obtain ⟨t, s1, s2, _⟩ := acc_begin D F (x := "held") (ts := [.str (spell G), .int n]) (p := p) (h := h) hn rfl rfl
  rw [hp, Bool.not_false, Bool.or_true] at s2
  refine acc_pat (d := .tuple [.str "held", .str (spell G), .int n]) rfl rfl rfl (in_held h) ?_ ⟨_, rfl⟩
  show defM 4 2 s_shows_pattern _ _ = _
  rw [sp_eq]
  exact defM_rt rfl ((seq_nx s1).trans (seq_rt ((if_t s2).trans rfl)))
/-- the least length that is held -/
theorem least_iff (D : Dim G W H) {e n' a b : Option Nat} (h6 : IsL (K33.St G W H 6) 1 0 e) (h8 : IsL (K33.St G W H 8) 0 1 n') (h9 : IsL (K33.St G W H 9) 1 1 a) (h7 : IsL (K33.St G W H 7) (-1) 1 b) {n : Int} (hn : 0 < n) : Held G W H n ↔ match K33.held e n' a b with | none => False | some L => (L : Int) ≤ n := by
  have r6 := run_iff D (a := 6) (r := e) h6 hn
  have r8 := run_iff D (a := 8) (r := n') h8 hn
  have r9 := run_iff D (a := 9) (r := a) h9 hn
  have r7 := run_iff D (a := 7) (r := b) h7 hn
  have al : Held G W H n ↔ (¬ Run G W H 6 n ∧ ¬ Run G W H 8 n ∧ ¬ Run G W H 9 n ∧ ¬ Run G W H 7 n) :=
    ⟨fun z => ⟨z 6 (by simp [four]), z 8 (by simp [four]), z 9 (by simp [four]), z 7 (by simp [four])⟩, fun ⟨a, b, c, d⟩ x m => by
      simp only [four, List.mem_cons, List.not_mem_nil, or_false] at m
      rcases m with rfl | rfl | rfl | rfl <;> assumption⟩
  rw [al, r6, r8, r9, r7]
  cases e with
  | none => simp [K33.held]
  | some e =>
    cases n' with
    | none => simp [K33.held]
    | some n' =>
      cases a with
      | none => simp [K33.held]
      | some a =>
        cases b with
        | none => simp [K33.held]
        | some b =>
          simp only [K33.held]
          omega
theorem leastHeld_ok (D : Dim G W H) (h : VH) : ∃ r, m_least_held [pat G] h = .ok (optT r) h ∧ ∀ n : Int, 0 < n → (Held G W H n ↔ match r with | none => False | some L => (L : Int) ≤ n) := by
  obtain ⟨e, e1, e2⟩ := along_ok D way_e (pat_at G h)
  obtain ⟨n, n1, n2⟩ := along_ok D way_n (pat_at G h)
  obtain ⟨a, a1, a2⟩ := along_ok D way_a (pat_at G h)
  obtain ⟨b, b1, b2⟩ := along_ok D way_b (pat_at G h)
  exact ⟨_, K33.held_ok e1 n1 a1 b1, fun k hk => least_iff D e2 n2 a2 b2 hk⟩
end
end K57

set_option Elab.async false
set_option linter.all false
set_option maxRecDepth 100000
set_option maxHeartbeats 4000000
namespace K61
open K33
open K58
open K57
open PySem L2 TL
def s_law_bent_tile : MS := (sSeq (sPar 2 3 (aCons (eCall m_law_take (aCons (eVar 0) (aCons (eK (.int 9)) aNil))) (aCons (eCall m_law_take (aCons (eVar 0) (aCons (eOp bAdd (eCall fLen (aCons (eVar 1) aNil)) (eK (.int 1))) aNil))) aNil)))
  (sSeq (sIf (bTest (eOp bLt (eVar 2) (eK (.int 4)))) (sSeq (sSet 4 (eCall m_law_of (aCons (eVar 0) (aCons (eL (aLim (aCons (eK (.str "0")) (aCons (eK (.str "5")) (aCons (eK (.str "6")) (aCons (eK (.str "4")) (aCons (eK (.str "/")) (aCons (eK (.str "")) (aCons (eK (.str " ")) (aCons (eK (.str "x")) (aCons (eK (.str "00")) (aCons (eK (.str "\n")) (aCons (eK (.str "8")) aNil))))))))))))) aNil))))
  (sRet (eOp bAdd (eOp bAdd (eSl (eVar 1) oNo (oSome (eVar 3))) (eVar 4)) (eSl (eVar 1) (oSome (eOp bAdd (eVar 3) (eCall fInt (aCons (eOp bLt (eVar 2) (eK (.int 2))) aNil)))) oNo)))) sNil)
  (sSeq (sIf (bTest (eOp bEq (eVar 2) (eK (.int 4)))) (sSeq (sSet 5 (eL (aLim (aCons (eOp bMulS (eK (.str "0")) (eK (.int 13))) (aCons (eOp bMulS (eK (.str "0")) (eK (.int 12))) (aCons (eMt "str" mJoin (eK (.str "/")) (aCons (eL (mMul (eL (aLim (aCons (eK (.str "0")) aNil))) (eK (.int 13)))) aNil)) (aCons (eMt "str" mJoin (eK (.str "/")) (aCons (eL (mMul (eL (aLim (aCons (eK (.str "0")) aNil))) (eK (.int 12)))) aNil)) (aCons (eK (.str "66")) (aCons (eK (.str "6")) aNil)))))))))
  (sSeq (sSet 5 (eOp bAdd (eVar 5) (eL (aLim (aCons (eK (.str "")) (aCons (eK (.str "/")) (aCons (eK (.str "0/")) (aCons (eK (.str "00/0")) aNil))))))))
  (sRet (eCall m_law_of (aCons (eVar 0) (aCons (eOp bAdd (eVar 5) (eL (aLim (aCons (eK (.str "64/46")) (aCons (eK (.str "46/46")) (aCons (eK (.str "97/31")) (aCons (eK .non) (aCons (eK (.int 0)) (aCons (eL (aLim (aCons (eK (.str "64")) aNil))) (aCons (eK (.str "64 ")) (aCons (eK (.str "5")) aNil))))))))))) aNil)))))) sNil)
  (sRet (eVar 1)))))
def m_law_bent_tile : List T → VH → Res T := defM 6 2 s_law_bent_tile

def s_law_tile_read : MS := (sSeq (sIf (bNot (bTest (eIsi (.b "str") (eVar 0)))) (sRet (eL (aLim aNil))) sNil)
  (sSeq (sSet 1 (eRev (eMt "str" mSplit (eVar 0) (aCons (eK (.str "/")) aNil))))
  (sSeq (sIf (bOr (bTest (eOp bGt (eCall fLen (aCons (eVar 1) aNil)) (eK (.int 12)))) (bNot (bTest (eChain bLt bLt (eK (.int 0)) (eCall fLen (aCons (eOp bIx (eVar 1) (eK (.int 0))) aNil)) (eK (.int 13)))))) (sRet (eL (aLim aNil))) sNil)
  (sSeq (sFor (iSeqC (eVar 1)) (mgName 2) (sIf (bOr (bTest (eOp bNe (eCall fLen (aCons (eVar 2) aNil)) (eCall fLen (aCons (eOp bIx (eVar 1) (eK (.int 0))) aNil)))) (bTest (eOp bNe (eL (mLc (iSeqC (eVar 2)) [3] (mgName 3) (bTest (eOp bNin (eVar 3) (eK (.str "012346789")))) (eVar 3))) (eL (aLim aNil))))) (sRet (eL (aLim aNil))) sNil))
  (sRet (eIf (bTest (eCall m_law_is_tile (aCons (eVar 1) aNil))) (eVar 1) (eL (aLim aNil))))))))
def m_law_tile_read : List T → VH → Res T := defM 4 1 s_law_tile_read

def s_law_whole : MS := (sRet (eAnd (eIsi (.b "int") (eVar 0)) (eNot (eIsi (.b "bool") (eVar 0)))))
def m_law_whole : List T → VH → Res T := defM 1 1 s_law_whole

def s_law_right : MS := (sSeq (sFor (iRange1 (aCons (eK (.int 16)) aNil)) (mgName 1) (sSeq (sPar 2 3 (aCons (eOp bAdd (eK (.int 1)) (eCall m_law_take (aCons (eVar 0) (aCons (eK (.int 5)) aNil)))) (aCons (eOp bAdd (eK (.int 1)) (eCall m_law_take (aCons (eVar 0) (aCons (eK (.int 5)) aNil)))) aNil)))
  (sSeq (sSet 4 (eCall m_law_bent_tile (aCons (eVar 0) (aCons (eCall m_law_tile_text (aCons (eCall m_law_tile (aCons (eVar 0) (aCons (eVar 2) (aCons (eVar 3) (aCons (eK (.int 20)) aNil))))) aNil)) aNil))))
  (sSeq (sSet 5 (eCall m_law_tile_read (aCons (eVar 4) aNil)))
  (sSeq (sSet 6 (eCall m_law_of (aCons (eVar 0) (aCons (eL (aLim (aCons (eK (.str "e")) (aCons (eK (.str "n")) (aCons (eK (.str "a")) (aCons (eK (.str "b")) (aCons (eK (.str "e")) (aCons (eK (.str "n")) (aCons (eK (.str "")) (aCons (eK (.str "E")) (aCons (eK (.str "en")) (aCons (eK .non) (aCons (eK (.int 0)) (aCons (eTup (aCons (eK (.str "e")) aNil)) (aCons (eK (.str "6")) aNil))))))))))))))) aNil))))
  (sSeq (sSet 7 (eCall m_law_of (aCons (eVar 0) (aCons (eL (aLim (aCons (eK (.int 1)) (aCons (eK (.int 2)) (aCons (eK (.int 3)) (aCons (eK (.int 7)) (aCons (eOp bPow (eK (.int 10)) (eK (.int 30))) (aCons (eK (.int 0)) (aCons (eNeg (eK (.int 1))) (aCons (eK .non) (aCons (eK (.bl true)) (aCons (eK (.str "2")) (aCons (eTup (aCons (eK (.int 2)) aNil)) (aCons (eK (.bl false)) aNil)))))))))))))) aNil))))
  (sSeq (sSet 8 (eAnd (eOp bNe (eVar 5) (eL (aLim aNil))) (eAnd (eCall m_law_whole (aCons (eVar 7) aNil)) (eOp bGt (eVar 7) (eK (.int 0))))))
  (sSeq (sSet 9 (eL (mLc (iSeqC (eL (aLim (aCons (eK (.str "6")) (aCons (eK (.str "8")) (aCons (eK (.str "9")) (aCons (eK (.str "7")) aNil))))))) [10] (mgName 10) (bAnd (bTest (eVar 8)) (bTest (eCall m_law_run_free (aCons (eVar 5) (aCons (eVar 10) (aCons (eVar 7) aNil)))))) (eVar 10))))
  (sSeq (sIf (bNot (bTest (eCall m_law_judge (aCons (eTup (aCons (eK (.str "held")) (aCons (eVar 4) (aCons (eVar 7) aNil)))) (aCons (eK .non) (aCons (eAnd (eVar 8) (eOp bEq (eVar 9) (eL (aLim aNil)))) aNil)))))) (sRet (eK (.bl false))) sNil)
  (sSeq (sSet 11 (eDisp (pCons (eK (.str "e")) (eK (.str "6")) (pCons (eK (.str "n")) (eK (.str "8")) (pCons (eK (.str "a")) (eK (.str "9")) (pCons (eK (.str "b")) (eK (.str "7")) pNil))))))
  (sSeq (sSet 12 (eAnd (eVar 8) (eAnd (eIsi (.b "str") (eVar 6)) (eOp bInD (eVar 6) (eVar 11)))))
  (sSeq (sSet 12 (eAnd (eVar 12) (eCall m_law_run_free (aCons (eVar 5) (aCons (eOp bGetD (eVar 11) (eVar 6)) (aCons (eVar 7) aNil))))))
  (sIf (bNot (bTest (eCall m_law_judge (aCons (eTup (aCons (eK (.str "free")) (aCons (eVar 4) (aCons (eVar 6) (aCons (eVar 7) aNil))))) (aCons (eK .non) (aCons (eVar 12) aNil)))))) (sRet (eK (.bl false))) sNil)))))))))))))
  (sRet (eK (.bl true))))
def m_law_right : List T → VH → Res T := defM 13 1 s_law_right

def s_law : MS := (sRet (eCall fAll (aCons (eL (mLc (iRange1 (aCons (eCall fMax2 (aCons (eK (.int 2)) (aCons (eCall fMin2 (aCons (eCall fLen (aCons (eVar 0) aNil)) (aCons (eK (.int 5)) aNil))) aNil))) aNil)) [1] (mgName 1) bYes (eCall m_law_right (aCons (eCall m_law_bag (aCons (eVar 0) (aCons (eVar 1) aNil))) aNil)))) aNil)))
def m_law : List T → VH → Res T := defM 2 1 s_law

end K61

set_option Elab.async false
set_option linter.all false
set_option maxRecDepth 100000
set_option maxHeartbeats 4000000
namespace K61
open K33
open K58
open K57
open PySem L2 TL KG
/-! ### which texts tell rows -/
def isFig (c : Nat) : Bool := decide (c ∈ [48, 49, 50, 51, 52, 54, 55, 56, 57])
def rowsOf (s : Str) : List Str := (Txt.split s "/").reverse
def firstW (s : Str) : Nat := ((rowsOf s).headD ⟨#[]⟩).length
def okRow (w : Nat) (r : Str) : Bool := decide (r.length = w) && r.cps.toList.all isFig
def fits (s : Str) : Bool := decide ((rowsOf s).length ≤ 12) && (decide (0 < firstW s) && decide (firstW s ≤ 12))
def goodB (s : Str) : Bool := fits s && (rowsOf s).all (okRow (firstW s))
theorem rows_pos (s : Str) : 1 ≤ (rowsOf s).length := by
  unfold rowsOf
  rw [List.length_reverse]
  exact PyProof.Rows.split_pos s "/"
theorem rows_le (s : Str) : (rowsOf s).length ≤ s.length + 2 := by
  unfold rowsOf
  rw [List.length_reverse]
  exact PyProof.Rows.split_le s "/"
theorem row_le {s r : Str} (h : r ∈ rowsOf s) : r.length ≤ s.length := PyProof.Rows.part_short (y := "/") (List.mem_reverse.mp h)
theorem rows_head (s : Str) : ∃ r0 rest, rowsOf s = r0 :: rest ∧ firstW s = r0.length := by
  have p := rows_pos s
  unfold firstW
  cases e : rowsOf s with
  | nil => rw [e] at p; simp at p
  | cons r0 rest => exact ⟨r0, rest, rfl, rfl⟩
def digsOf (r : Str) : List Nat := r.cps.toList.map (· - 48)
theorem fig_48 {c : Nat} (h : isFig c = true) : 48 ≤ c ∧ c - 48 < 10 ∧ c - 48 ≠ 5 := by
  have := of_decide_eq_true h
  simp only [List.mem_cons, List.not_mem_nil, or_false] at this
  omega
theorem rowS_digs {r : Str} (h : r.cps.toList.all isFig = true) : rowS (digsOf r) = r := by
  have e : (digsOf r).map (48 + ·) = r.cps.toList := by
    unfold digsOf
    rw [List.map_map]
    conv => rhs; rw [← List.map_id r.cps.toList]
    refine List.map_congr_left fun c hc => ?_
    have := (fig_48 (List.all_eq_true.mp h c hc)).1
    show 48 + (c - 48) = c
    omega
  unfold rowS
  rw [e]
/-- a text that tells rows is one that a grid spells -/
theorem good_grid {s : Str} (h : goodB s = true) : ∃ (G : List (List Nat)) (W H : Nat), Dim G W H ∧ Digs G ∧ s = spell G ∧ rowsT G = .lst ((rowsOf s).map T.str) := by
  unfold goodB fits at h
  simp only [Bool.and_eq_true, decide_eq_true_eq] at h
  obtain ⟨⟨h1, h2, h3⟩, h4⟩ := h
  have all : ∀ r ∈ rowsOf s, r.length = firstW s ∧ r.cps.toList.all isFig = true := fun r hr => by
    have := List.all_eq_true.mp h4 r hr
    unfold okRow at this
    simpa only [Bool.and_eq_true, decide_eq_true_eq] using this
  have e : ((rowsOf s).map digsOf).map rowS = rowsOf s := by
    rw [List.map_map]
    conv => rhs; rw [← List.map_id (rowsOf s)]
    exact List.map_congr_left fun r hr => rowS_digs (all r hr).2
  refine ⟨(rowsOf s).map digsOf, firstW s, (rowsOf s).length, ⟨by rw [List.length_map], rows_pos s, h1, fun r hr => ?_, h2, h3⟩, ⟨fun r hr d hd => ?_, fun r hr d hd => ?_⟩, ?_, ?_⟩
  · obtain ⟨q, hq, rfl⟩ := List.mem_map.mp hr
    unfold digsOf
    rw [List.length_map, ← (all q hq).1]
    rfl
  · obtain ⟨q, hq, rfl⟩ := List.mem_map.mp hr
    obtain ⟨c, hc, rfl⟩ := List.mem_map.mp hd
    exact (fig_48 (List.all_eq_true.mp (all q hq).2 c hc)).2.1
  · obtain ⟨q, hq, rfl⟩ := List.mem_map.mp hr
    obtain ⟨c, hc, rfl⟩ := List.mem_map.mp hd
    exact (fig_48 (List.all_eq_true.mp (all q hq).2 c hc)).2.2
  · unfold spell
    rw [List.map_reverse, e]
    unfold rowsOf
    rw [List.reverse_reverse]
    exact (PySem.StrLaws.join_split s "/").symm
  · unfold rowsT
    conv => rhs; rw [← e]
    simp only [List.map_map]
    rfl
/-! ### signs -/
theorem sign_eq (c k : Nat) : ((⟨#[c]⟩ : Str) == ⟨#[k]⟩) = decide (c = k) := by
  rw [W.beq_decide]
  exact decide_eq_decide.mpr ⟨fun h => by injection h with h; injection h with h; injection h, fun h => by rw [h]⟩
theorem step_fig (c : Nat) : (kv_STEPS.lookup (⟨#[c]⟩ : Str)).isSome = decide (c ∈ [54, 52, 56, 50, 57, 49, 55, 51]) := by
  have e : kv_STEPS.map (·.1) = [(⟨#[54]⟩ : Str), ⟨#[52]⟩, ⟨#[56]⟩, ⟨#[50]⟩, ⟨#[57]⟩, ⟨#[49]⟩, ⟨#[55]⟩, ⟨#[51]⟩] := by decide +kernel
  have key : ∀ (kvs : List (Str × T)) (ks : List Nat), kvs.map (·.1) = ks.map (fun k => (⟨#[k]⟩ : Str)) → (kvs.lookup (⟨#[c]⟩ : Str)).isSome = decide (c ∈ ks) := by
    intro kvs
    induction kvs with
    | nil => intro ks hk; cases ks with | nil => simp | cons _ _ => simp at hk
    | cons p kvs ih =>
      intro ks hk
      cases ks with
      | nil => simp at hk
      | cons k ks =>
        simp only [List.map_cons, List.cons.injEq] at hk
        rw [show p = (p.1, p.2) from rfl, hk.1, List.lookup_cons, sign_eq]
        by_cases q : c = k
        · simp [q]
        · simp [q, ih ks hk.2]
  exact key _ [54, 52, 56, 50, 57, 49, 55, 51] e
theorem fig_eq (c : Nat) : (decide (c = 48) || decide (c ∈ [54, 52, 56, 50, 57, 49, 55, 51])) = isFig c := by
  unfold isFig
  rw [Bool.eq_iff_iff]
  simp only [Bool.or_eq_true, decide_eq_true_eq, List.mem_cons, List.not_mem_nil, or_false]
  omega
theorem nin_fig (c : Nat) : bInS true ⟨#[c]⟩ "012346789" = !isFig c := by
  unfold bInS
  rw [PySem.StrLaws.found_one, Bool.true_bne]
  have e : (("012346789" : Str)).cps.toList = [48, 49, 50, 51, 52, 54, 55, 56, 57] := by decide +kernel
  rw [e]
  rfl
end K61

set_option Elab.async false
set_option linter.all false
set_option maxRecDepth 100000
set_option maxHeartbeats 4000000
namespace K61
open K33
open K58
open K57
open PySem L2 TL KG
theorem lt_int (p q : Int) (h : VH) : bLt (.int p) (.int q) h = .ok (.bl (decide (p < q))) h := by simp [bLt, bOrdG]
theorem le_int (p q : Int) (h : VH) : bLe (.int p) (.int q) h = .ok (.bl (decide (p ≤ q))) h := by simp [bLe, bOrdG]
theorem gt_int (p q : Int) (h : VH) : bGt (.int p) (.int q) h = .ok (.bl (decide (q < p))) h := by simp [bGt, bOrdG]
theorem chain_ok {f g k : ME} {b b' : T → T → VH → Res T} {τ : TS_} {h : VH} {x y z : T} {p q : Bool} (e1 : f τ h = .ok x h) (e2 : g τ h = .ok y h) (e3 : b x y h = .ok (.bl p) h) (e4 : k τ h = .ok z h) (e5 : b' y z h = .ok (.bl q) h) : eChain b b' f g k τ h = .ok (.bl (p && q)) h := by
  unfold eChain
  simp only [e1, e2, e3]
  cases p <;> simp [e4, e5]
theorem or_ok {c d : MB} {τ : TS_} {h : VH} {p q : Bool} (e1 : c τ h = .ok p h) (e2 : d τ h = .ok q h) : TL.bOr c d τ h = .ok (p || q) h := by
  unfold TL.bOr
  rw [e1]
  cases p <;> simp [e2]
theorem eor_ok {f g : ME} {τ : TS_} {h : VH} {p q : Bool} (e1 : f τ h = .ok (.bl p) h) (e2 : g τ h = .ok (.bl q) h) : eOr f g τ h = .ok (.bl (p || q)) h := by
  unfold eOr
  rw [e1]
  cases p <;> simp [e2]
theorem eand_ok {f g : ME} {τ : TS_} {h : VH} {p q : Bool} (e1 : f τ h = .ok (.bl p) h) (e2 : p = true → g τ h = .ok (.bl q) h) : eAnd f g τ h = .ok (.bl (p && q)) h := by
  unfold eAnd
  rw [e1]
  cases p
  · rfl
  · simp [e2 rfl]
abbrev rowT (L : List Str) : T := .lst (L.map T.str)
theorem split_mt {s : Str} (hs : s.length ≤ 1000) {f : ME} {τ : TS_} {h : VH} (e : f τ h = .ok (.str s) h) : eRev (eMt "str" mSplit f (aCons (eK (.str "/")) aNil)) τ h = .ok (rowT (rowsOf s)) h := by
  have sh : shortAll (Txt.split s "/") = true := by
    unfold shortAll
    rw [List.all_eq_true]
    intro x hx
    have := PyProof.Rows.part_short hx
    exact decide_eq_true (by omega)
  have ez : (("/" : Str).length == 0) = false := by decide
  have hz : (Txt.split s "/").length ≤ 16777216 := by
    have := PyProof.Rows.split_le s "/"
    omega
  have m : eMt "str" mSplit f (aCons (eK (.str "/")) aNil) τ h = .ok (.lst ((Txt.split s "/").map T.str)) h := by
    unfold eMt
    have tt : tyT h "str" (.str s) = true := by unfold tyT; rfl
    have a : aCons (eK (.str "/")) aNil τ h = .ok [.str "/"] h := rfl
    simp only [e, tt, if_true, a, mSplit, ez, hz, sh, and_self]
  unfold eRev
  rw [m]
  unfold rowsOf rowT
  simp only [TL.listOf, ← List.map_reverse]
theorem bl_len {f : ME} {τ : TS_} {h : VH} {r : Str} (e : f τ h = .ok (.str r) h) : eCall fLen (aCons f aNil) τ h = .ok (.int (r.length : Nat)) h := (call_ok (b := fLen) (cons_ok e rfl)).trans rfl
/-! ### the checker's reading -/
def rtC : ME := (eAnd (eOp TL.bEq (eCall fLen (aCons (eVar 2) aNil)) (eCall fLen (aCons (eOp TL.bIx (eVar 1) (eK (.int 0))) aNil))) (eCall fAll (aCons (eL (mLc (iSeqC (eVar 2)) [3] (mgName 3) bYes (eOr (eOp TL.bEq (eVar 3) (eK (.str "0"))) (eInK false kv_STEPS (eVar 3))))) aNil)))
def rtA : MB := (TL.bOr (TL.bNot (bTest (eChain bLt bLe (eK (.int 0)) (eCall fLen (aCons (eVar 1) aNil)) (eK (.int 12))))) (TL.bNot (bTest (eChain bLt bLe (eK (.int 0)) (eCall fLen (aCons (eOp TL.bIx (eVar 1) (eK (.int 0))) aNil)) (eK (.int 12))))))
theorem rt_eq : s_rows_told = sSeq (sSet 1 (eIf (bTest (eIsi (.b "str") (eVar 0))) (eRev (eMt "str" mSplit (eVar 0) (aCons (eK (.str "/")) aNil))) (eL (aLim aNil)))) (sSeq (sIf rtA (sRet (eK .non)) sNil) (sSeq (sIf (TL.bNot (bTest (eCall fAll (aCons (eL (mLc (iSeqC (eVar 1)) [2] (mgName 2) bYes rtC)) aNil)))) (sRet (eK .non)) sNil) (sRet (eVar 1)))) := rfl
theorem signs_fig (a b c : Option T) (r : Str) (hr : r.length ≤ 1000) (h : VH) : mLc (iSeqC (eVar 2)) [3] (mgName 3) bYes (eOr (eOp TL.bEq (eVar 3) (eK (.str "0"))) (eInK false kv_STEPS (eVar 3))) [a, b, some (.str r), c] h = .ok (r.cps.toList.map fun c => .bl (isFig c)) h := by
  have z := mLc_map (mi := iSeqC (eVar 2)) (ws := [3]) (g := mgName 3) (e := eOr (eOp TL.bEq (eVar 3) (eK (.str "0"))) (eInK false kv_STEPS (eVar 3))) (τ := [a, b, some (.str r), c]) (h := h) (rd := fun h => seqS h (.str r)) (ts := r.cps.toList.map fun c => .str ⟨#[c]⟩)
    (by simp [iSeqC, eVar, walkable, seqS]) (by simp [seqS, signsT]) (by rw [List.length_map, Array.length_toList]; unfold Str.length at hr; omega) (fun t => match t with | .str z => .bl (isFig (z.cps.getD 0 0)) | t => t) (fun t ht => by
      obtain ⟨d, hd, rfl⟩ := List.mem_map.mp ht
      refine ⟨[a, b, some (.str r), some (.str ⟨#[d]⟩)], rfl, ?_⟩
      have v3 : eVar 3 [a, b, some (.str r), some (.str ⟨#[d]⟩)] h = .ok (.str ⟨#[d]⟩) h := rfl
      have e1 := (op_ok (b := TL.bEq) v3 (rfl : eK (.str "0") [a, b, some (.str r), some (.str ⟨#[d]⟩)] h = .ok (.str "0") h)).trans (TL.eq_strs _ _ h)
      have e2 : eInK false kv_STEPS (eVar 3) [a, b, some (.str r), some (.str ⟨#[d]⟩)] h = .ok (.bl (decide (d ∈ [54, 52, 56, 50, 57, 49, 55, 51]))) h := by
        simp only [eInK, v3, step_fig, Bool.false_bne]
      have z0 : ("0" : Str) = ⟨#[48]⟩ := by decide +kernel
      rw [z0, sign_eq] at e1
      have e3 := eor_ok e1 e2
      rw [fig_eq] at e3
      exact e3)
  rw [z, List.map_map]
  rfl
theorem rows_told_bad {s : Str} (hs : s.length ≤ 1000) (hb : goodB s = false) (h : VH) : m_rows_told [.str s] h = .ok .non h := by
  obtain ⟨r0, rest, eL0, ew⟩ := rows_head s
  have hl := rows_le s
  have hp := rows_pos s
  have s1 : (sSet 1 (eIf (bTest (eIsi (.b "str") (eVar 0))) (eRev (eMt "str" mSplit (eVar 0) (aCons (eK (.str "/")) aNil))) (eL (aLim aNil)))) (startT 4 [.str s]) h = .nx [some (.str s), some (rowT (rowsOf s)), none, none] h := by
    have e := split_mt hs (rfl : eVar 0 (startT 4 [.str s]) h = .ok (.str s) h)
    have t : bTest (eIsi (.b "str") (eVar 0)) (startT 4 [.str s]) h = .ok true h := rfl
    refine (set_ok (i := 1) (t := rowT (rowsOf s)) (h1 := h) ?_).trans rfl
    unfold eIf
    rw [t]
    exact e
  obtain ⟨τ, hτ⟩ : ∃ τ, τ = [some (T.str s), some (rowT (rowsOf s)), none, none] := ⟨_, rfl⟩
  rw [← hτ] at s1
  have v1 : eVar 1 τ h = .ok (rowT (rowsOf s)) h := by rw [hτ]; rfl
  have nil : ∀ τ, aNil τ h = .ok [] h := fun _ => rfl
  have l0 : TL.bIx (rowT (rowsOf s)) (.int 0) h = .ok (.str r0) h := by
    unfold rowT
    rw [eL0]
    have : atI ((r0 :: rest).map T.str) 0 = some (.str r0) := by rw [ix_nn (Int.le_refl _) (by simp)]; rfl
    simp only [TL.bIx, TL.listOf, this]
  have L1 : eCall fLen (aCons (eVar 1) aNil) τ h = .ok (.int ((rowsOf s).length : Nat)) h := by
    refine (call_ok (b := fLen) (cons_ok v1 (nil τ))).trans ?_
    simp only [fLen, seqOf, TL.listOf, List.length_map]
  have L2' : ∀ τ', eVar 1 τ' h = .ok (rowT (rowsOf s)) h → eCall fLen (aCons (eOp TL.bIx (eVar 1) (eK (.int 0))) aNil) τ' h = .ok (.int (firstW s : Nat)) h := fun τ' v => by
    rw [ew]
    exact bl_len ((op_ok (b := TL.bIx) v (rfl : eK (.int 0) τ' h = .ok (.int 0) h)).trans l0)
  have k0 : eK (.int 0) τ h = .ok (.int 0) h := rfl
  have k12 : eK (.int 12) τ h = .ok (.int 12) h := rfl
  have C1 := chain_ok k0 L1 (lt_int _ _ h) k12 (le_int _ _ h)
  have C2 := chain_ok k0 (L2' τ v1) (lt_int _ _ h) k12 (le_int _ _ h)
  have T1 := or_ok (not_ok (test_ok C1)) (not_ok (test_ok C2))
  have q : ∀ n : Nat, decide ((0 : Int) < (n : Nat)) = decide (0 < n) ∧ decide (((n : Nat) : Int) ≤ 12) = decide (n ≤ 12) := fun n => ⟨decide_eq_decide.mpr (by omega), decide_eq_decide.mpr (by omega)⟩
  rw [(q _).1, (q _).2, (q _).1, (q _).2] at T1
  have T1 : rtA τ h = .ok (!fits s) h := by
    refine Eq.trans T1 (congrArg (fun b => Res.ok b h) ?_)
    unfold fits
    rw [decide_eq_true (show 0 < (rowsOf s).length by omega)]
    cases decide ((rowsOf s).length ≤ 12) <;> cases decide (0 < firstW s) <;> cases decide (firstW s ≤ 12) <;> rfl
  show defM 4 1 s_rows_told _ _ = _
  rw [rt_eq]
  cases f : fits s with
  | false =>
    rw [f] at T1
    exact defM_rt rfl ((seq_nx s1).trans (seq_rt ((if_t T1).trans rfl)))
  | true =>
    rw [f] at T1
    have gb : (rowsOf s).all (okRow (firstW s)) = false := by
      unfold goodB at hb
      rw [f] at hb
      simpa using hb
    have outer : mLc (iSeqC (eVar 1)) [2] (mgName 2) bYes rtC τ h = .ok ((rowsOf s).map fun r => .bl (okRow (firstW s) r)) h := by
      rw [hτ]
      have z := mLc_map (mi := iSeqC (eVar 1)) (ws := [2]) (g := mgName 2) (e := rtC)
        (τ := [some (T.str s), some (rowT (rowsOf s)), none, none]) (h := h) (rd := fun h => seqS h (rowT (rowsOf s))) (ts := (rowsOf s).map T.str)
        rfl rfl (by rw [List.length_map]; omega) (fun t => match t with | .str r => .bl (okRow (firstW s) r) | t => t) (fun t ht => by
          obtain ⟨r, hr, rfl⟩ := List.mem_map.mp ht
          have hrl := row_le hr
          refine ⟨[some (T.str s), some (rowT (rowsOf s)), some (.str r), none], rfl, ?_⟩
          have A := bl_len (rfl : eVar 2 [some (T.str s), some (rowT (rowsOf s)), some (.str r), none] h = .ok (.str r) h)
          have B := (op_ok (b := TL.bEq) A (L2' _ rfl)).trans (eq_int _ _ h)
          have C := (call_ok (b := fAll) (cons_ok (eL_ok (signs_fig (some (T.str s)) (some (rowT (rowsOf s))) none r (by omega) h)) (nil _))).trans (all_gen _ _ h)
          have e : decide (((r.length : Nat) : Int) = (firstW s : Nat)) = decide (r.length = firstW s) := decide_eq_decide.mpr (by omega)
          rw [e] at B
          exact eand_ok B fun _ => C)
      rw [z, List.map_map]
      rfl
    have T2 := not_ok (test_ok ((call_ok (b := fAll) (cons_ok (eL_ok outer) (nil τ))).trans (all_gen _ _ h)))
    rw [gb] at T2
    exact defM_rt rfl ((seq_nx s1).trans ((seq_nx ((if_f T1).trans rfl)).trans (seq_rt ((if_t T2).trans rfl))))
theorem tile_told_bad {s : Str} (hs : s.length ≤ 1000) (hb : goodB s = false) (h : VH) : m_tile_told [.str s] h = .ok .non h := by
  have s1 : (sSet 1 (eCall m_rows_told (aCons (eVar 0) aNil))) (startT 5 [.str s]) h = .nx [some (.str s), some .non, none, none, none] h :=
    (set_ok (i := 1) ((call_ok (ts := [.str s]) rfl).trans (rows_told_bad hs hb h))).trans rfl
  exact defM_rt rfl ((seq_nx s1).trans (seq_rt ((if_t (h1 := h) rfl).trans rfl)))
end K61

set_option Elab.async false
set_option linter.all false
set_option maxRecDepth 100000
set_option maxHeartbeats 4000000
namespace K61
open K33
open K58
open K57
open PySem L2 TL KG
/-! ### the law's reading -/
def trB : MB := (TL.bOr (bTest (eOp bNe (eCall fLen (aCons (eVar 2) aNil)) (eCall fLen (aCons (eOp TL.bIx (eVar 1) (eK (.int 0))) aNil)))) (bTest (eOp bNe (eL (mLc (iSeqC (eVar 2)) [3] (mgName 3) (bTest (eOp bNin (eVar 3) (eK (.str "012346789")))) (eVar 3))) (eL (aLim aNil)))))
def trN : MS := (sRet (eL (aLim aNil)))
def trA : MB := (TL.bOr (bTest (eOp bGt (eCall fLen (aCons (eVar 1) aNil)) (eK (.int 12)))) (TL.bNot (bTest (eChain bLt bLt (eK (.int 0)) (eCall fLen (aCons (eOp TL.bIx (eVar 1) (eK (.int 0))) aNil)) (eK (.int 13))))))
theorem tr_eq : s_law_tile_read = sSeq (sIf (TL.bNot (bTest (eIsi (.b "str") (eVar 0)))) trN sNil) (sSeq (sSet 1 (eRev (eMt "str" mSplit (eVar 0) (aCons (eK (.str "/")) aNil)))) (sSeq (sIf trA trN sNil) (sSeq (sFor (iSeqC (eVar 1)) (mgName 2) (sIf trB trN sNil)) (sRet (eIf (bTest (eCall m_law_is_tile (aCons (eVar 1) aNil))) (eVar 1) (eL (aLim aNil))))))) := rfl
theorem ne_nil {l : List Str} (h : VH) : bNe (.lst (l.map T.str)) (.lst []) h = .ok (.bl (!l.isEmpty)) h := by
  have e1 : T.dat h 10 (.lst (l.map T.str)) = some (.list (l.map PyData.str)) := by
    rw [dat_lst, List.mapM_map]
    have := mapM_some (f := fun z => T.dat h 9 (.str z)) (g := PyData.str) (l := l) fun z _ => dat_str
    have e2 : List.mapM ((T.dat h 9) ∘ T.str) l = some (l.map PyData.str) := this
    first | rw [this] | rw [e2]
    rfl
  have e2 : T.dat h 10 (.lst []) = some (.list []) := rfl
  unfold bNe bEqG
  rw [e1, e2]
  cases l <;> simp [PyData.eqv, PyData.eqvAll]
theorem odd_signs (a b c : Option T) (r : Str) (hr : r.length ≤ 1000) (h : VH) : mLc (iSeqC (eVar 2)) [3] (mgName 3) (bTest (eOp bNin (eVar 3) (eK (.str "012346789")))) (eVar 3) [a, b, some (.str r), c] h = .ok (((r.cps.toList.filter fun c => !isFig c).map fun c => (⟨#[c]⟩ : Str)).map T.str) h := by
  have z := mLc_pure (mi := iSeqC (eVar 2)) (ws := [3]) (g := mgName 3) (c := (bTest (eOp bNin (eVar 3) (eK (.str "012346789"))))) (e := eVar 3) (τ := [a, b, some (.str r), c]) (h := h) (rd := fun h => seqS h (.str r)) (ts := r.cps.toList.map fun c => .str ⟨#[c]⟩)
    (by simp [iSeqC, eVar, walkable, seqS]) (by simp [seqS, signsT]) (by rw [List.length_map, Array.length_toList]; unfold Str.length at hr; omega) (fun t => match t with | .str z => !isFig (z.cps.getD 0 0) | t => true) (fun t => t) (fun t ht => by
      obtain ⟨d, hd, rfl⟩ := List.mem_map.mp ht
      refine ⟨[a, b, some (.str r), some (.str ⟨#[d]⟩)], rfl, ?_, fun _ => rfl⟩
      have v3 : eVar 3 [a, b, some (.str r), some (.str ⟨#[d]⟩)] h = .ok (.str ⟨#[d]⟩) h := rfl
      have e : bNin (.str ⟨#[d]⟩) (.str "012346789") h = .ok (.bl (bInS true ⟨#[d]⟩ "012346789")) h := rfl
      rw [nin_fig] at e
      exact test_ok ((op_ok (b := bNin) v3 (rfl : eK (.str "012346789") [a, b, some (.str r), some (.str ⟨#[d]⟩)] h = .ok (.str "012346789") h)).trans e))
  rw [z, List.map_id', List.filter_map]
  simp only [List.map_map]
  rfl
theorem read_other {t : T} (ht : ∀ h τ, eIsi (.b "str") (eVar 0) (some t :: τ) h = .ok (.bl false) h) (h : VH) : m_law_tile_read [t] h = .ok (.lst []) h := by
  have a : bTest (eIsi (.b "str") (eVar 0)) (startT 4 [t]) h = .ok false h := test_ok (ht h [none, none, none])
  show defM 4 1 s_law_tile_read _ _ = _
  rw [tr_eq]
  exact defM_rt rfl (seq_rt ((if_t (not_ok a)).trans rfl))
theorem read_begin {s : Str} (hs : s.length ≤ 1000) (h : VH) (e : Option T) : sIf (TL.bNot (bTest (eIsi (.b "str") (eVar 0)))) trN sNil (startT 4 [.str s]) h = .nx (startT 4 [.str s]) h ∧ (sSet 1 (eRev (eMt "str" mSplit (eVar 0) (aCons (eK (.str "/")) aNil)))) (startT 4 [.str s]) h = .nx [some (.str s), some (rowT (rowsOf s)), none, none] h ∧
    trA [some (.str s), some (rowT (rowsOf s)), none, none] h = .ok (!fits s) h ∧
    ∀ r ∈ rowsOf s, trB [some (.str s), some (rowT (rowsOf s)), some (.str r), e] h = .ok (!okRow (firstW s) r) h := by
  obtain ⟨r0, rest, eL0, ew⟩ := rows_head s
  have hl := rows_le s
  have hp := rows_pos s
  have nil : ∀ τ, aNil τ h = .ok [] h := fun _ => rfl
  have l0 : TL.bIx (rowT (rowsOf s)) (.int 0) h = .ok (.str r0) h := by
    unfold rowT
    rw [eL0]
    have : atI ((r0 :: rest).map T.str) 0 = some (.str r0) := by rw [ix_nn (Int.le_refl _) (by simp)]; rfl
    simp only [TL.bIx, TL.listOf, this]
  have L2' : ∀ τ', eVar 1 τ' h = .ok (rowT (rowsOf s)) h → eCall fLen (aCons (eOp TL.bIx (eVar 1) (eK (.int 0))) aNil) τ' h = .ok (.int (firstW s : Nat)) h := fun τ' v => by
    rw [ew]
    exact bl_len ((op_ok (b := TL.bIx) v (rfl : eK (.int 0) τ' h = .ok (.int 0) h)).trans l0)
  refine ⟨(if_f (not_ok (b := true) rfl)).trans rfl, (set_ok (i := 1) (split_mt hs rfl)).trans rfl, ?_, fun r hr => ?_⟩
  · obtain ⟨τ, hτ⟩ : ∃ τ, τ = [some (T.str s), some (rowT (rowsOf s)), none, none] := ⟨_, rfl⟩
    rw [← hτ]
    have v1 : eVar 1 τ h = .ok (rowT (rowsOf s)) h := by rw [hτ]; rfl
    have L1 : eCall fLen (aCons (eVar 1) aNil) τ h = .ok (.int ((rowsOf s).length : Nat)) h := by
      refine (call_ok (b := fLen) (cons_ok v1 (nil τ))).trans ?_
      simp only [fLen, seqOf, TL.listOf, List.length_map]
    have A := (op_ok (b := bGt) L1 (rfl : eK (.int 12) τ h = .ok (.int 12) h)).trans (gt_int _ _ h)
    have C := chain_ok (rfl : eK (.int 0) τ h = .ok (.int 0) h) (L2' τ v1) (lt_int _ _ h) (rfl : eK (.int 13) τ h = .ok (.int 13) h) (lt_int _ _ h)
    have D := or_ok (test_ok A) (not_ok (test_ok C))
    refine Eq.trans D (congrArg (fun b => Res.ok b h) ?_)
    have q1 : decide ((12 : Int) < ((rowsOf s).length : Nat)) = !decide ((rowsOf s).length ≤ 12) := by
      by_cases c : (rowsOf s).length ≤ 12
      · rw [decide_eq_true c, decide_eq_false (by omega)]; rfl
      · rw [decide_eq_false c, decide_eq_true (by omega)]; rfl
    have q2 : decide ((0 : Int) < (firstW s : Nat)) = decide (0 < firstW s) := decide_eq_decide.mpr (by omega)
    have q3 : decide (((firstW s : Nat) : Int) < 13) = decide (firstW s ≤ 12) := decide_eq_decide.mpr (by omega)
    rw [q1, q2, q3]
    unfold fits
    cases decide ((rowsOf s).length ≤ 12) <;> cases decide (0 < firstW s) <;> cases decide (firstW s ≤ 12) <;> rfl
  · have hrl := row_le hr
    have A := bl_len (rfl : eVar 2 [some (T.str s), some (rowT (rowsOf s)), some (.str r), e] h = .ok (.str r) h)
    have B := test_ok ((op_ok (b := bNe) A (L2' _ rfl)).trans (ne_int _ _ h))
    have C := test_ok ((op_ok (b := bNe) (eL_ok (odd_signs (some (.str s)) (some (rowT (rowsOf s))) e r (by omega) h)) (rfl : eL (aLim aNil) [some (T.str s), some (rowT (rowsOf s)), some (.str r), e] h = .ok (.lst []) h)).trans (ne_nil h))
    refine Eq.trans (or_ok B C) (congrArg (fun b => Res.ok b h) ?_)
    have q1 : decide (((r.length : Nat) : Int) = (firstW s : Nat)) = decide (r.length = firstW s) := decide_eq_decide.mpr (by omega)
    have q2 : ((r.cps.toList.filter fun c => !isFig c).map fun c => (⟨#[c]⟩ : Str)).isEmpty = r.cps.toList.all isFig := by
      rw [List.isEmpty_map]
      generalize r.cps.toList = l
      induction l with
      | nil => rfl
      | cons c l ih =>
        rw [List.filter_cons, List.all_cons]
        cases isFig c <;> simp [ih]
    rw [q1, q2]
    unfold okRow
    cases decide (r.length = firstW s) <;> cases r.cps.toList.all isFig <;> rfl
theorem read_bad {s : Str} (hs : s.length ≤ 1000) (hb : goodB s = false) (h : VH) : m_law_tile_read [.str s] h = .ok (.lst []) h := by
  have hl := rows_le s
  obtain ⟨s0, s1, T1, _⟩ := read_begin hs h none
  show defM 4 1 s_law_tile_read _ _ = _
  rw [tr_eq]
  cases f : fits s with
  | false =>
    rw [f] at T1
    exact defM_rt rfl ((seq_nx s0).trans ((seq_nx s1).trans (seq_rt ((if_t T1).trans rfl))))
  | true =>
    rw [f] at T1
    have gb : (rowsOf s).all (okRow (firstW s)) = false := by
      unfold goodB at hb
      rw [f] at hb
      simpa using hb
    have main := sFor_or (mi := iSeqC (eVar 1)) (g := mgName 2) (body := sIf trB trN sNil) (τ := [some (.str s), some (rowT (rowsOf s)), none, none]) (h := h) (h1 := h) (rd := fun h => seqS h (rowT (rowsOf s))) (ts := (rowsOf s).map T.str)
      (fun i τ h' => (∃ c, τ = [some (.str s), some (rowT (rowsOf s)), c, none]) ∧ h' = h ∧ ∀ j (hj : j < (rowsOf s).length), j < i → okRow (firstW s) (rowsOf s)[j] = true) (fun t h' => t = .lst [] ∧ h' = h) rfl ⟨⟨none, rfl⟩, rfl, fun j _ hj => by omega⟩ (fun _ _ _ _ => rfl) (fun i hi τ h' J => by
        obtain ⟨⟨c, rfl⟩, rfl, ok⟩ := J
        have hi2 : i < (rowsOf s).length := by simpa using hi
        have ei : ((rowsOf s).map T.str)[i] = .str (rowsOf s)[i] := List.getElem_map ..
        rw [ei]
        obtain ⟨_, _, _, tb⟩ := read_begin hs h' none
        have tb := tb _ (List.getElem_mem hi2)
        refine ⟨[some (.str s), some (rowT (rowsOf s)), some (.str (rowsOf s)[i]), none], h', rfl, ?_⟩
        cases q : okRow (firstW s) (rowsOf s)[i] with
        | false =>
          rw [q] at tb
          exact .inr ⟨_, _, (if_t tb).trans rfl, rfl, rfl⟩
        | true =>
          rw [q] at tb
          refine .inl ⟨_, _, (if_f tb).trans rfl, ⟨_, rfl⟩, rfl, fun j hj hji => ?_⟩
          by_cases c2 : j = i
          · subst c2; exact q
          · exact ok j hj (by omega))
    rcases main with ⟨τ', h', z, _, _, ok⟩ | ⟨t, h', z, rfl, rfl⟩
    · exfalso
      have : (rowsOf s).all (okRow (firstW s)) = true := List.all_eq_true.mpr fun r hr => by
        obtain ⟨j, hj, rfl⟩ := List.getElem_of_mem hr
        exact ok j hj (by rw [List.length_map]; exact hj)
      rw [this] at gb
      cases gb
    · exact defM_rt rfl ((seq_nx s0).trans ((seq_nx s1).trans ((seq_nx ((if_f T1).trans rfl)).trans (seq_rt z))))
theorem read_good {s : Str} (hs : s.length ≤ 1000) (hb : goodB s = true) {h : VH} {b : Bool} (ht : m_law_is_tile [rowT (rowsOf s)] h = .ok (.bl b) h) : m_law_tile_read [.str s] h = .ok (if b then rowT (rowsOf s) else .lst []) h := by
  have hl := rows_le s
  obtain ⟨s0, s1, T1, _⟩ := read_begin hs h none
  unfold goodB at hb
  rw [Bool.and_eq_true] at hb
  rw [hb.1] at T1
  obtain ⟨τ', h', z, ⟨c, rfl⟩, rfl⟩ := sFor_inv (mi := iSeqC (eVar 1)) (g := mgName 2) (body := sIf trB trN sNil) (τ := [some (.str s), some (rowT (rowsOf s)), none, none]) (h := h) (h1 := h) (rd := fun h => seqS h (rowT (rowsOf s))) (ts := (rowsOf s).map T.str)
    (fun i τ h' => (∃ c, τ = [some (.str s), some (rowT (rowsOf s)), c, none]) ∧ h' = h) rfl ⟨⟨none, rfl⟩, rfl⟩ (fun _ _ _ _ => rfl) (fun i hi τ h' J => by
      obtain ⟨⟨c, rfl⟩, rfl⟩ := J
      have hi2 : i < (rowsOf s).length := by simpa using hi
      have ei : ((rowsOf s).map T.str)[i] = .str (rowsOf s)[i] := List.getElem_map ..
      rw [ei]
      obtain ⟨_, _, _, tb⟩ := read_begin hs h' none
      have tb := tb _ (List.getElem_mem hi2)
      rw [List.all_eq_true.mp hb.2 _ (List.getElem_mem hi2)] at tb
      exact ⟨_, _, _, _, rfl, .inl ((if_f tb).trans rfl), ⟨_, rfl⟩, rfl⟩)
  show defM 4 1 s_law_tile_read _ _ = _
  rw [tr_eq]
  refine defM_rt rfl ((seq_nx s0).trans ((seq_nx s1).trans ((seq_nx ((if_f T1).trans rfl)).trans ((seq_nx z).trans (ret_ok ?_)))))
  have A := test_ok ((call_ok (b := m_law_is_tile) (cons_ok (rfl : eVar 1 [some (.str s), some (rowT (rowsOf s)), c, none] h' = .ok (rowT (rowsOf s)) h') (rfl : aNil [some (T.str s), some (rowT (rowsOf s)), c, none] h' = .ok [] h'))).trans ht)
  unfold eIf
  rw [A]
  cases b <;> rfl
end K61

set_option Elab.async false
set_option linter.all false
set_option maxRecDepth 100000
set_option maxHeartbeats 4000000
namespace K61
open K33
open K58
open K57
open PySem L2 TL KG
/-! ### a text with something otherwise -/
inductive Tx : T → Prop
  | str {s : Str} : s.length ≤ 1000 → Tx (.str s)
  | non : Tx .non
  | int : Tx (.int 0)
  | lst : Tx (.lst [.str "64"])
def bn1 : MS := (sPar 2 3 (aCons (eCall m_law_take (aCons (eVar 0) (aCons (eK (.int 9)) aNil))) (aCons (eCall m_law_take (aCons (eVar 0) (aCons (eOp TL.bAdd (eCall fLen (aCons (eVar 1) aNil)) (eK (.int 1))) aNil))) aNil)))
def bnL : ME := (eL (aLim (aCons (eK (.str "0")) (aCons (eK (.str "5")) (aCons (eK (.str "6")) (aCons (eK (.str "4")) (aCons (eK (.str "/")) (aCons (eK (.str "")) (aCons (eK (.str " ")) (aCons (eK (.str "x")) (aCons (eK (.str "00")) (aCons (eK (.str "\n")) (aCons (eK (.str "8")) aNil)))))))))))))
def bn2 : MS := sSeq (sSet 4 (eCall m_law_of (aCons (eVar 0) (aCons bnL aNil)))) (sRet (eOp TL.bAdd (eOp TL.bAdd (eSl (eVar 1) oNo (oSome (eVar 3))) (eVar 4)) (eSl (eVar 1) (oSome (eOp TL.bAdd (eVar 3) (eCall fInt (aCons (eOp bLt (eVar 2) (eK (.int 2))) aNil)))) oNo)))
def bm1 : ME := (eOp bMulS (eK (.str "0")) (eK (.int 13)))
def bm2 : ME := (eOp bMulS (eK (.str "0")) (eK (.int 12)))
def bm3 : ME := (eMt "str" mJoin (eK (.str "/")) (aCons (eL (mMul (eL (aLim (aCons (eK (.str "0")) aNil))) (eK (.int 13)))) aNil))
def bm4 : ME := (eMt "str" mJoin (eK (.str "/")) (aCons (eL (mMul (eL (aLim (aCons (eK (.str "0")) aNil))) (eK (.int 12)))) aNil))
def bn3 : MS := sSeq (sSet 5 (eL (aLim (aCons bm1 (aCons bm2 (aCons bm3 (aCons bm4 (aCons (eK (.str "66")) (aCons (eK (.str "6")) aNil)))))))))
  (sSeq (sSet 5 (eOp TL.bAdd (eVar 5) (eL (aLim (aCons (eK (.str "")) (aCons (eK (.str "/")) (aCons (eK (.str "0/")) (aCons (eK (.str "00/0")) aNil))))))))
  (sRet (eCall m_law_of (aCons (eVar 0) (aCons (eOp TL.bAdd (eVar 5) (eL (aLim (aCons (eK (.str "64/46")) (aCons (eK (.str "46/46")) (aCons (eK (.str "97/31")) (aCons (eK .non) (aCons (eK (.int 0)) (aCons (eL (aLim (aCons (eK (.str "64")) aNil))) (aCons (eK (.str "64 ")) (aCons (eK (.str "5")) aNil))))))))))) aNil)))))
theorem bn_eq : s_law_bent_tile = sSeq bn1 (sSeq (sIf (bTest (eOp bLt (eVar 2) (eK (.int 4)))) bn2 sNil) (sSeq (sIf (bTest (eOp TL.bEq (eVar 2) (eK (.int 4)))) bn3 sNil) (sRet (eVar 1)))) := rfl
theorem bm1_ok (τ : TS_) (h : VH) : bm1 τ h = .ok (.str (timesS "0" 13)) h := by
  refine (op_ok (b := bMulS) (rfl : eK (.str "0") τ h = .ok (.str "0") h) (rfl : eK (.int 13) τ h = .ok (.int 13) h)).trans ?_
  unfold bMulS
  exact if_pos (by decide +kernel)
theorem bm2_ok (τ : TS_) (h : VH) : bm2 τ h = .ok (.str (timesS "0" 12)) h := by
  refine (op_ok (b := bMulS) (rfl : eK (.str "0") τ h = .ok (.str "0") h) (rfl : eK (.int 12) τ h = .ok (.int 12) h)).trans ?_
  unfold bMulS
  exact if_pos (by decide +kernel)
theorem bmJ {k : Nat} (hk : 0 < k ∧ k ≤ 100) (τ : TS_) (h : VH) : eMt "str" mJoin (eK (.str "/")) (aCons (eL (mMul (eL (aLim (aCons (eK (.str "0")) aNil))) (eK (.int (k : Nat))))) aNil) τ h = .ok (.str (Txt.join "/" (List.replicate k ("0" : Str)))) h := by
  have a1 : mMul (eL (aLim (aCons (eK (.str "0")) aNil))) (eK (.int (k : Nat))) τ h = .ok ((List.replicate k ("0" : Str)).map T.str) h := by
    have a : eL (aLim (aCons (eK (.str "0")) aNil)) τ h = .ok (.lst [.str "0"]) h := rfl
    have b : eK (.int (k : Nat)) τ h = .ok (.int (k : Nat)) h := rfl
    have c : TL.listOf h (.lst [.str "0"]) = some [.str "0"] := rfl
    unfold mMul
    simp only [a, b, c, Int.toNat_natCast]
    rw [if_pos ⟨by simp; omega, by omega, by omega⟩]
    have : (List.replicate k [T.str "0"]).flatten = (List.replicate k ("0" : Str)).map T.str := by
      rw [List.map_replicate]
      clear a b c hk
      induction k with
      | zero => rfl
      | succ k ih => simp [List.replicate_succ, ih]
    rw [this]
  have a2 := cons_ok (eL_ok a1) (rfl : aNil τ h = .ok [] h)
  have tt : tyT h "str" (.str "/") = true := by unfold tyT; rfl
  have k1 : eK (.str "/") τ h = .ok (.str "/") h := rfl
  unfold eMt
  simp only [k1, tt, if_true, a2]
  have s1 : seqOf h (.lst ((List.replicate k ("0" : Str)).map T.str)) = some ((List.replicate k ("0" : Str)).map T.str) := rfl
  simp only [mJoin, s1, strsOf_map]
  rw [if_pos]
  have l0 : ("0" : Str).length = 1 := by decide
  have l1 : ("/" : Str).length = 1 := by decide
  rw [List.map_replicate, List.sum_replicate_nat, List.length_replicate, l0, l1]
  omega
theorem bm3_ok (τ : TS_) (h : VH) : bm3 τ h = .ok (.str (Txt.join "/" (List.replicate 13 ("0" : Str)))) h := bmJ (k := 13) (by omega) τ h
theorem bm4_ok (τ : TS_) (h : VH) : bm4 τ h = .ok (.str (Txt.join "/" (List.replicate 12 ("0" : Str)))) h := bmJ (k := 12) (by omega) τ h
theorem tx1 : Tx (.str (timesS "0" 13)) := .str (by decide +kernel)
theorem tx2 : Tx (.str (timesS "0" 12)) := .str (by decide +kernel)
theorem tx3 : Tx (.str (Txt.join "/" (List.replicate 13 ("0" : Str)))) := .str (by decide +kernel)
theorem tx4 : Tx (.str (Txt.join "/" (List.replicate 12 ("0" : Str)))) := .str (by decide +kernel)
theorem bent_ok {n : Nat} {h : VH} (I : Iv n h) {s : Str} (hs : s.length ≤ 400) : ∃ (t : T) (h' : VH), m_law_bent_tile [.ref n, .str s] h = .ok t h' ∧ Tx t ∧ Iv n h' ∧ h'.length = h.length := by
  obtain ⟨r1, k1, e1, b1, I1, l1⟩ := take_ok (R := []) (k := 9) I (by omega) (by omega)
  obtain ⟨r2, k2, e2, b2, I2, l2⟩ := take_ok (R := []) (k := (s.length : Int) + 1) I1 (by omega) (by omega)
  simp only [List.append_nil] at e1 e2
  have s1 : bn1 (startT 6 [.ref n, .str s]) h = .nx [some (.ref n), some (.str s), some (.int (r1 : Nat)), some (.int (r2 : Nat)), none, none] k2 := by
    have A := (call_ok (b := m_law_take) (τ := startT 6 [.ref n, .str s]) (h := h) (ts := [.ref n, .int 9]) (g := (aCons (eVar 0) (aCons (eK (.int 9)) aNil))) rfl).trans e1
    have L := bl_len (rfl : eVar 1 (startT 6 [.ref n, .str s]) k1 = .ok (.str s) k1)
    have B0 := (op_ok (b := TL.bAdd) L (rfl : eK (.int 1) (startT 6 [.ref n, .str s]) k1 = .ok (.int 1) k1)).trans (add_i _ _ _)
    have B := (call_ok (b := m_law_take) (cons_ok (rfl : eVar 0 (startT 6 [.ref n, .str s]) k1 = .ok (.ref n) k1) (cons_ok B0 (rfl : aNil (startT 6 [.ref n, .str s]) k1 = .ok [] k1)))).trans e2
    unfold bn1 sPar
    rw [cons_ok A (cons_ok B (rfl : aNil _ k2 = .ok [] k2))]
    rfl
  show ∃ t h', defM 6 2 s_law_bent_tile _ _ = _ ∧ _
  rw [bn_eq]
  obtain ⟨τ, hτ⟩ : ∃ τ, τ = [some (T.ref n), some (T.str s), some (.int (r1 : Nat)), some (.int (r2 : Nat)), none, none] := ⟨_, rfl⟩
  rw [← hτ] at s1
  have v0 : eVar 0 τ k2 = .ok (.ref n) k2 := by rw [hτ]; rfl
  have v1 : eVar 1 τ k2 = .ok (.str s) k2 := by rw [hτ]; rfl
  have v2 : eVar 2 τ k2 = .ok (.int (r1 : Nat)) k2 := by rw [hτ]; rfl
  have T1 := test_ok ((op_ok (b := bLt) v2 (rfl : eK (.int 4) τ k2 = .ok (.int 4) k2)).trans (lt_int _ _ _))
  have T2 := test_ok ((op_ok (b := TL.bEq) v2 (rfl : eK (.int 4) τ k2 = .ok (.int 4) k2)).trans (eq_int _ _ _))
  by_cases q : ((r1 : Nat) : Int) < 4
  · rw [decide_eq_true q] at T1
    obtain ⟨r3, k3, t, e3, b3, I3, l3⟩ := of_ok (R := []) (ts := [.str "0", .str "5", .str "6", .str "4", .str "/", .str "", .str " ", .str "x", .str "00", .str "\n", .str "8"]) I2 (by decide) (by decide)
    simp only [List.append_nil] at e3
    obtain ⟨z, rfl, hz⟩ : ∃ z : Str, t = .str z ∧ z.length ≤ 2 := by
      have m := List.mem_of_getElem? b3
      simp only [List.mem_cons, List.not_mem_nil, or_false] at m
      rcases m with rfl | rfl | rfl | rfl | rfl | rfl | rfl | rfl | rfl | rfl | rfl <;> exact ⟨_, rfl, by decide⟩
    have s2 : sSet 4 (eCall m_law_of (aCons (eVar 0) (aCons bnL aNil))) τ k2 = .nx (τ.set 4 (some (.str z))) k3 :=
      set_ok (i := 4) ((call_ok (b := m_law_of) (cons_ok v0 (cons_ok (rfl : bnL τ k2 = .ok _ k2) rfl))).trans e3)
    obtain ⟨τ2, hτ2⟩ : ∃ τ2, τ2 = τ.set 4 (some (.str z)) := ⟨_, rfl⟩
    rw [← hτ2] at s2
    have w1 : eVar 1 τ2 k3 = .ok (.str s) k3 := by rw [hτ2, hτ]; rfl
    have w2 : eVar 2 τ2 k3 = .ok (.int (r1 : Nat)) k3 := by rw [hτ2, hτ]; rfl
    have w3 : eVar 3 τ2 k3 = .ok (.int (r2 : Nat)) k3 := by rw [hτ2, hτ]; rfl
    have w4 : eVar 4 τ2 k3 = .ok (.str z) k3 := by rw [hτ2, hτ]; rfl
    have A1 : eSl (eVar 1) oNo (oSome (eVar 3)) τ2 k3 = .ok (.str (cutS s none (some (r2 : Nat)))) k3 := by
      simp only [eSl, w1, oNo, oSome, w3, bSl]
    have A2 : ∃ j : Int, eSl (eVar 1) (oSome (eOp TL.bAdd (eVar 3) (eCall fInt (aCons (eOp bLt (eVar 2) (eK (.int 2))) aNil)))) oNo τ2 k3 = .ok (.str (cutS s (some j) none)) k3 := by
      have C1 := (op_ok (b := bLt) w2 (rfl : eK (.int 2) τ2 k3 = .ok (.int 2) k3)).trans (lt_int _ _ _)
      have C2 := (call_ok (b := fInt) (cons_ok C1 (rfl : aNil τ2 k3 = .ok [] k3))).trans (rfl : fInt [.bl (decide (((r1 : Nat) : Int) < 2))] k3 = .ok (.int (if decide (((r1 : Nat) : Int) < 2) = true then 1 else 0)) k3)
      have C3 := (op_ok (b := TL.bAdd) w3 C2).trans (add_i _ _ _)
      refine ⟨(r2 : Nat) + (if decide (((r1 : Nat) : Int) < 2) = true then 1 else 0), ?_⟩
      simp only [eSl, w1, oNo, oSome, C3, bSl]
    obtain ⟨j, A2⟩ := A2
    have c1 := cutS_length s none (some (r2 : Nat))
    have c2 := cutS_length s (some j) none
    have B1 : TL.bAdd (.str (cutS s none (some (r2 : Nat)))) (.str z) k3 = .ok (.str (cutS s none (some (r2 : Nat)) ++ z)) k3 := by
      unfold TL.bAdd
      exact if_pos (by omega)
    have B2 : TL.bAdd (.str (cutS s none (some (r2 : Nat)) ++ z)) (.str (cutS s (some j) none)) k3 = .ok (.str (cutS s none (some (r2 : Nat)) ++ z ++ cutS s (some j) none)) k3 := by
      unfold TL.bAdd
      exact if_pos (by rw [len_app]; omega)
    have R := (op_ok (b := TL.bAdd) ((op_ok (b := TL.bAdd) A1 w4).trans B1) A2).trans B2
    refine ⟨_, k3, defM_rt rfl ((seq_nx s1).trans (seq_rt ((if_t T1).trans ((seq_nx s2).trans (ret_ok R))))), .str (by rw [len_app, len_app]; omega), I3, by omega⟩
  · rw [decide_eq_false q] at T1
    by_cases p : ((r1 : Nat) : Int) = 4
    · rw [decide_eq_true p] at T2
      obtain ⟨ts, hts⟩ : ∃ ts : List T, ts = [.str (timesS "0" 13), .str (timesS "0" 12), .str (Txt.join "/" (List.replicate 13 ("0" : Str))), .str (Txt.join "/" (List.replicate 12 ("0" : Str))), .str "66", .str "6", .str "", .str "/", .str "0/", .str "00/0", .str "64/46", .str "46/46", .str "97/31", .non, .int 0, .lst [.str "64"], .str "64 ", .str "5"] := ⟨_, rfl⟩
      obtain ⟨r3, k3, t, e3, b3, I3, l3⟩ := of_ok (R := []) (ts := ts) I2 (by rw [hts]; decide) (by rw [hts]; decide)
      simp only [List.append_nil] at e3
      have tx : Tx t := by
        have m := List.mem_of_getElem? b3
        rw [hts] at m
        simp only [List.mem_cons, List.not_mem_nil, or_false] at m
        rcases m with rfl | rfl | rfl | rfl | rfl | rfl | rfl | rfl | rfl | rfl | rfl | rfl | rfl | rfl | rfl | rfl | rfl | rfl
        · exact tx1
        · exact tx2
        · exact tx3
        · exact tx4
        all_goals first | exact .non | exact .int | exact .lst | exact .str (by decide)
      obtain ⟨ts1, hts1⟩ : ∃ ts : List T, ts = [.str (timesS "0" 13), .str (timesS "0" 12), .str (Txt.join "/" (List.replicate 13 ("0" : Str))), .str (Txt.join "/" (List.replicate 12 ("0" : Str))), .str "66", .str "6"] := ⟨_, rfl⟩
      have nil : aNil τ k2 = .ok [] k2 := rfl
      have E1 : eL (aLim (aCons bm1 (aCons bm2 (aCons bm3 (aCons bm4 (aCons (eK (.str "66")) (aCons (eK (.str "6")) aNil))))))) τ k2 = .ok (.lst ts1) k2 := by
        refine eL_ok ?_
        unfold aLim
        rw [cons_ok (bm1_ok τ k2) (cons_ok (bm2_ok τ k2) (cons_ok (bm3_ok τ k2) (cons_ok (bm4_ok τ k2) (cons_ok (rfl : eK (.str "66") τ k2 = .ok (.str "66") k2) (cons_ok (rfl : eK (.str "6") τ k2 = .ok (.str "6") k2) nil)))))]
        rw [hts1]
        rfl
      have s3 := set_ok (i := 5) E1
      obtain ⟨τ3, hτ3⟩ : ∃ τ3, τ3 = τ.set 5 (some (.lst ts1)) := ⟨_, rfl⟩
      rw [← hτ3] at s3
      have x5 : eVar 5 τ3 k2 = .ok (.lst ts1) k2 := by rw [hτ3, hτ]; rfl
      have E2 := (op_ok (b := TL.bAdd) x5 (rfl : (eL (aLim (aCons (eK (.str "")) (aCons (eK (.str "/")) (aCons (eK (.str "0/")) (aCons (eK (.str "00/0")) aNil)))))) τ3 k2 = .ok (.lst [.str "", .str "/", .str "0/", .str "00/0"]) k2)).trans (show _ = Res.ok (.lst (ts1 ++ [.str "", .str "/", .str "0/", .str "00/0"])) k2 by
        rw [hts1]
        rfl)
      have s4 := set_ok (i := 5) E2
      obtain ⟨τ4, hτ4⟩ : ∃ τ4, τ4 = τ3.set 5 (some (.lst (ts1 ++ [.str "", .str "/", .str "0/", .str "00/0"]))) := ⟨_, rfl⟩
      rw [← hτ4] at s4
      have y5 : eVar 5 τ4 k2 = .ok (.lst (ts1 ++ [.str "", .str "/", .str "0/", .str "00/0"])) k2 := by rw [hτ4, hτ3, hτ]; rfl
      have y0 : eVar 0 τ4 k2 = .ok (.ref n) k2 := by rw [hτ4, hτ3, hτ]; rfl
      have E3 := (op_ok (b := TL.bAdd) y5 (rfl : (eL (aLim (aCons (eK (.str "64/46")) (aCons (eK (.str "46/46")) (aCons (eK (.str "97/31")) (aCons (eK .non) (aCons (eK (.int 0)) (aCons (eL (aLim (aCons (eK (.str "64")) aNil))) (aCons (eK (.str "64 ")) (aCons (eK (.str "5")) aNil)))))))))) τ4 k2 = .ok (.lst [.str "64/46", .str "46/46", .str "97/31", .non, .int 0, .lst [.str "64"], .str "64 ", .str "5"]) k2)).trans (show _ = Res.ok (.lst ts) k2 by
        rw [hts1, hts]
        rfl)
      have R := (call_ok (b := m_law_of) (cons_ok y0 (cons_ok E3 (rfl : aNil τ4 k2 = .ok [] k2)))).trans e3
      exact ⟨t, k3, defM_rt rfl ((seq_nx s1).trans ((seq_nx ((if_f T1).trans rfl)).trans (seq_rt ((if_t T2).trans ((seq_nx s3).trans ((seq_nx s4).trans (ret_ok R))))))), tx, I3, by omega⟩
    · rw [decide_eq_false p] at T2
      exact ⟨.str s, k2, defM_rt rfl ((seq_nx s1).trans ((seq_nx ((if_f T1).trans rfl)).trans ((seq_nx ((if_f T2).trans rfl)).trans (ret_ok v1)))), .str (by omega), I2, by omega⟩
end K61

set_option Elab.async false
set_option linter.all false
set_option maxRecDepth 100000
set_option maxHeartbeats 4000000
namespace K61
open K33
open K58
open K57
open PySem L2 TL KG
/-! ### what a text tells -/
structure Bad (t : T) : Prop where
  told : ∀ h : VH, m_tile_told [t] h = .ok .non h
  read : ∀ h : VH, Flat h → m_law_tile_read [t] h = .ok (.lst []) h
structure Good (G : List (List Nat)) (W H : Nat) (t : T) : Prop where
  D : Dim G W H
  M : K33.Mut G W H
  eq : t = .str (spell G)
  read : ∀ h : VH, Flat h → m_law_tile_read [t] h = .ok (rowsT G) h
theorem tell {t : T} (x : Tx t) : Bad t ∨ ∃ G W H, Good G W H t := by
  cases x with
  | non => exact .inl ⟨fun h => rfl, fun h _ => read_other (fun h τ => rfl) h⟩
  | int => exact .inl ⟨fun h => rfl, fun h _ => read_other (fun h τ => rfl) h⟩
  | lst => exact .inl ⟨fun h => rfl, fun h _ => read_other (fun h τ => rfl) h⟩
  | @str s hs =>
    cases hb : goodB s with
    | false => exact .inl ⟨fun h => tile_told_bad hs hb h, fun h _ => read_bad hs hb h⟩
    | true =>
      obtain ⟨G, W, H, D, A, es, er⟩ := good_grid hb
      have F := Fig.of D A
      cases m : mAll G W H with
      | false =>
        refine .inl ⟨fun h => ?_, fun h f => ?_⟩
        · have z := tile_gen D F h
          rw [m, ← es] at z
          exact z
        · have z := isTile_ok D F (f.low h.length)
          rw [m, er] at z
          exact read_good hs hb z
      | true =>
        refine .inr ⟨G, W, H, D, (mAll_iff D F).mp m, by rw [es], fun h f => ?_⟩
        have z := isTile_ok D F (f.low h.length)
        rw [m, er] at z
        rw [er]
        exact read_good hs hb z
/-! ### sizes and ways -/
def sizes : List T := [.int 1, .int 2, .int 3, .int 7, .int (10 ^ 30), .int 0, .int (-1), .non, .bl true, .str "2", .tup [.int 2], .bl false]
def ways : List T := [.str "e", .str "n", .str "a", .str "b", .str "e", .str "n", .str "", .str "E", .str "en", .non, .int 0, .tup [.str "e"], .str "6"]
/-- what is no number -/
structure NoNum (z : T) : Prop where
  no : ∀ h : VH, m_is_number [z] h = .ok (.bl false) h
  fine : ∀ (τ : TS_) (h : VH), eVar 7 τ h = .ok z h → eAnd (eCall m_law_whole (aCons (eVar 7) aNil)) (eOp bGt (eVar 7) (eK (.int 0))) τ h = .ok (.bl false) h
theorem num_of {z : T} (m : z ∈ sizes) : (∃ d, ∀ h : VH, T.dat h 9 z = some d) ∧ (NoNum z ∨ ∃ n : Int, 0 < n ∧ z = .int n) := by
  have odd : ∀ z : T, (∀ h : VH, m_is_number [z] h = .ok (.bl false) h) → (∀ h : VH, m_law_whole [z] h = .ok (.bl false) h) → NoNum z := fun z a b => ⟨a, fun τ h v => and_f ((call_ok (b := m_law_whole) (cons_ok v rfl)).trans (b h))⟩
  have neg : ∀ n : Int, n ≤ 0 → NoNum (.int n) := fun n hn => by
    refine ⟨fun h => ?_, fun τ h v => ?_⟩
    · refine defM_rt rfl (ret_ok ?_)
      have a : eCall m_is_whole (aCons (eVar 0) aNil) (startT 1 [.int n]) h = .ok (.bl true) h := (call_ok (ts := [.int n]) rfl).trans rfl
      have b : eOp bGt (eVar 0) (eK (.int 0)) (startT 1 [.int n]) h = .ok (.bl (decide (0 < n))) h := rfl
      rw [and_t a, b, decide_eq_false (by omega)]
    · have a : eCall m_law_whole (aCons (eVar 7) aNil) τ h = .ok (.bl true) h := (call_ok (b := m_law_whole) (cons_ok v rfl)).trans rfl
      have b := (op_ok (b := bGt) v (rfl : eK (.int 0) τ h = .ok (.int 0) h)).trans (gt_int _ _ h)
      rw [and_t a, b, decide_eq_false (by omega)]
  unfold sizes at m
  simp only [List.mem_cons, List.not_mem_nil, or_false] at m
  rcases m with rfl | rfl | rfl | rfl | rfl | rfl | rfl | rfl | rfl | rfl | rfl | rfl
  · exact ⟨⟨_, fun h => dat_int⟩, .inr ⟨_, by decide, rfl⟩⟩
  · exact ⟨⟨_, fun h => dat_int⟩, .inr ⟨_, by decide, rfl⟩⟩
  · exact ⟨⟨_, fun h => dat_int⟩, .inr ⟨_, by decide, rfl⟩⟩
  · exact ⟨⟨_, fun h => dat_int⟩, .inr ⟨_, by decide, rfl⟩⟩
  · exact ⟨⟨_, fun h => dat_int⟩, .inr ⟨_, by decide, rfl⟩⟩
  · exact ⟨⟨_, fun h => dat_int⟩, .inl (neg _ (by decide))⟩
  · exact ⟨⟨_, fun h => dat_int⟩, .inl (neg _ (by decide))⟩
  · exact ⟨⟨_, fun h => dat_non⟩, .inl (odd _ (fun h => rfl) fun h => rfl)⟩
  · exact ⟨⟨_, fun h => rfl⟩, .inl (odd _ (fun h => rfl) fun h => rfl)⟩
  · exact ⟨⟨_, fun h => dat_str⟩, .inl (odd _ (fun h => rfl) fun h => rfl)⟩
  · exact ⟨⟨.tuple [.int 2], fun h => rfl⟩, .inl (odd _ (fun h => rfl) fun h => rfl)⟩
  · exact ⟨⟨_, fun h => rfl⟩, .inl (odd _ (fun h => rfl) fun h => rfl)⟩
def sgs : List (T × T) := [(.str "e", .str "6"), (.str "n", .str "8"), (.str "a", .str "9"), (.str "b", .str "7")]
inductive LW : Str → Nat → Prop
  | e : LW "e" 6
  | n : LW "n" 8
  | a : LW "a" 9
  | b : LW "b" 7
theorem LW.way {w : Str} {a : Nat} (l : LW w a) : Way w a := by cases l; exact way_e; exact way_n; exact way_a; exact way_b
theorem LW.get {w : Str} {a : Nat} (l : LW w a) : getT sgs (.inr w) = some (sg a) := by cases l <;> with_unfolding_all rfl
theorem LW.lt {w : Str} {a : Nat} (l : LW w a) : a < 10 ∧ a ≠ 5 ∧ a ≠ 0 := by cases l <;> omega
/-- what is no way -/
structure NoWay (w : T) : Prop where
  no : ∀ (f g : ME) (τ : TS_) (h : VH), f τ h = .ok w h → eAnd (eIsi (.b "str") f) (eAnd (eInK false kv_FIGURE_OF f) g) τ h = .ok (.bl false) h
  law : ∀ (f : ME) (τ : TS_) (h : VH) (n : Nat), f τ h = .ok w h → eVar 11 τ h = .ok (.ref n) h → h[n]? = some (.dct sgs) → eAnd (eIsi (.b "str") f) (eOp bInD f (eVar 11)) τ h = .ok (.bl false) h
theorem way_of {w : T} (m : w ∈ ways) : (∃ d, ∀ h : VH, T.dat h 9 w = some d) ∧ (NoWay w ∨ ∃ v a, LW v a ∧ w = .str v) := by
  have odd : ∀ w : T, (∀ (f : ME) (τ : TS_) (h : VH), f τ h = .ok w h → eIsi (.b "str") f τ h = .ok (.bl false) h) → NoWay w := fun w a => ⟨fun f g τ h e => and_f (a f τ h e), fun f τ h n e _ _ => and_f (a f τ h e)⟩
  have oddS : ∀ v : Str, kv_FIGURE_OF.lookup v = none → getT sgs (.inr v) = none → NoWay (.str v) := fun v a b => by
    have i : ∀ (f : ME) (τ : TS_) (h : VH), f τ h = .ok (.str v) h → eIsi (.b "str") f τ h = .ok (.bl true) h := fun f τ h e => by
      simp only [eIsi, e, tyOf, isiB, beq_self_eq_true, Bool.true_or]
    refine ⟨fun f g τ h e => ?_, fun f τ h n e v11 en => ?_⟩
    · have j : eInK false kv_FIGURE_OF f τ h = .ok (.bl false) h := by
        simp only [eInK, e, a]
        rfl
      exact (and_t (i f τ h e)).trans (and_f j)
    · refine (and_t (i f τ h e)).trans ((op_ok (b := bInD) e v11).trans ?_)
      simp only [bInD, bInDG, en, keyT, b]
      rfl
  unfold ways at m
  simp only [List.mem_cons, List.not_mem_nil, or_false] at m
  rcases m with rfl | rfl | rfl | rfl | rfl | rfl | rfl | rfl | rfl | rfl | rfl | rfl | rfl
  · exact ⟨⟨_, fun h => dat_str⟩, .inr ⟨_, _, .e, rfl⟩⟩
  · exact ⟨⟨_, fun h => dat_str⟩, .inr ⟨_, _, .n, rfl⟩⟩
  · exact ⟨⟨_, fun h => dat_str⟩, .inr ⟨_, _, .a, rfl⟩⟩
  · exact ⟨⟨_, fun h => dat_str⟩, .inr ⟨_, _, .b, rfl⟩⟩
  · exact ⟨⟨_, fun h => dat_str⟩, .inr ⟨_, _, .e, rfl⟩⟩
  · exact ⟨⟨_, fun h => dat_str⟩, .inr ⟨_, _, .n, rfl⟩⟩
  · exact ⟨⟨_, fun h => dat_str⟩, .inl (oddS _ (by with_unfolding_all rfl) (by with_unfolding_all rfl))⟩
  · exact ⟨⟨_, fun h => dat_str⟩, .inl (oddS _ (by with_unfolding_all rfl) (by with_unfolding_all rfl))⟩
  · exact ⟨⟨_, fun h => dat_str⟩, .inl (oddS _ (by with_unfolding_all rfl) (by with_unfolding_all rfl))⟩
  · exact ⟨⟨_, fun h => dat_non⟩, .inl (odd _ fun f τ h e => by simp only [eIsi, e]; rfl)⟩
  · exact ⟨⟨_, fun h => dat_int⟩, .inl (odd _ fun f τ h e => by simp only [eIsi, e]; rfl)⟩
  · exact ⟨⟨.tuple [.str "e"], fun h => rfl⟩, .inl (odd _ fun f τ h e => by simp only [eIsi, e]; rfl)⟩
  · exact ⟨⟨_, fun h => dat_str⟩, .inl (oddS _ (by with_unfolding_all rfl) (by with_unfolding_all rfl))⟩
theorem tx_dat {t : T} (x : Tx t) : ∃ d, ∀ h : VH, T.dat h 9 t = some d := by
  cases x with
  | str => exact ⟨_, fun h => dat_str⟩
  | non => exact ⟨_, fun h => dat_non⟩
  | int => exact ⟨_, fun h => dat_int⟩
  | lst => exact ⟨.list [.str "64"], fun h => rfl⟩
/-! ### claims that are not let -/
theorem shows_no {x : Str} {ts : List T} {t z : T} {h : VH} (h1 : atI (.str x :: ts) 1 = some t) (hl : atI (.str x :: ts) (-1) = some z) (q : m_tile_told [t] h = .ok .non h ∨ ((∃ G, m_tile_told [t] h = .ok (rowsT G) h) ∧ m_is_number [z] h = .ok (.bl false) h)) : m_shows_pattern [.tup (.str x :: ts), .non] h = .ok (.bl false) h := by
  have f1 : eOp TL.bIx (eVar 0) (eK (.int 1)) (startT 4 [.tup (.str x :: ts), .non]) h = .ok t h := (op_ok (b := TL.bIx) (rfl : eVar 0 (startT 4 [.tup (.str x :: ts), .non]) h = .ok (.tup (.str x :: ts)) h) rfl).trans (by simp only [TL.bIx, h1])
  have s1 : ∀ u, m_tile_told [t] h = .ok u h → sp1 (startT 4 [.tup (.str x :: ts), .non]) h = .nx [some (.tup (.str x :: ts)), some .non, some u, none] h := fun u e => (set_ok (i := 2) ((call_ok (b := m_tile_told) (cons_ok f1 rfl)).trans e)).trans rfl
  show defM 4 2 s_shows_pattern _ _ = _
  rw [sp_eq]
  rcases q with e | ⟨⟨G, e⟩, e2⟩
  · have t1 : bTest (eOp bIs (eVar 2) (eK .non)) [some (.tup (.str x :: ts)), some .non, some .non, none] h = .ok true h := rfl
    exact defM_rt rfl ((seq_nx (s1 _ e)).trans (seq_rt ((if_t (or_t t1)).trans rfl)))
  · have f2 : eOp TL.bIx (eVar 0) (eNeg (eK (.int 1))) [some (.tup (.str x :: ts)), some .non, some (rowsT G), none] h = .ok z h := (op_ok (b := TL.bIx) (rfl : eVar 0 [some (.tup (.str x :: ts)), some .non, some (rowsT G), none] h = .ok (.tup (.str x :: ts)) h) (rfl : eNeg (eK (.int 1)) [some (.tup (.str x :: ts)), some .non, some (rowsT G), none] h = .ok (.int (-1)) h)).trans (by simp only [TL.bIx, hl])
    have t1 : bTest (eOp bIs (eVar 2) (eK .non)) [some (.tup (.str x :: ts)), some .non, some (rowsT G), none] h = .ok false h := rfl
    have t2 : bTest (eOp bIsn (eVar 1) (eK .non)) [some (.tup (.str x :: ts)), some .non, some (rowsT G), none] h = .ok false h := rfl
    have t3 : TL.bNot (bTest (eCall m_is_number (aCons (eOp TL.bIx (eVar 0) (eNeg (eK (.int 1)))) aNil))) [some (.tup (.str x :: ts)), some .non, some (rowsT G), none] h = .ok true h := not_ok (test_ok ((call_ok (b := m_is_number) (cons_ok f2 rfl)).trans e2))
    exact defM_rt rfl ((seq_nx (s1 _ e)).trans (seq_rt ((if_t ((or_f t1).trans ((or_f t2).trans t3))).trans rfl)))
abbrev heT (t z : T) : T := .tup [.str "held", t, z]
abbrev frT (t w z : T) : T := .tup [.str "free", t, w, z]
def NotLet (t z : T) (h : VH) : Prop := m_tile_told [t] h = .ok .non h ∨ ((∃ G, m_tile_told [t] h = .ok (rowsT G) h) ∧ m_is_number [z] h = .ok (.bl false) h)
theorem acc_held_no {t z : T} {h : VH} {d1 d2 : PyData} (e1 : T.dat h 9 t = some d1) (e2 : T.dat h 9 z = some d2) (q : NotLet t z h) : m_accepts [heT t z, .non] h = .ok (.bl false) h := by
  refine acc_pat (d := .tuple [.str "held", d1, d2]) ?_ rfl rfl (in_held h) (shows_no rfl rfl q) ⟨_, rfl⟩
  unfold T.dat
  simp only [List.mapM_cons, List.mapM_nil, e1, e2, dat_str, Option.pure_def, Option.bind_eq_bind, Option.bind_some, Option.map_some]
theorem acc_free_no {t w z : T} {h : VH} {d1 d2 d3 : PyData} (e1 : T.dat h 9 t = some d1) (e2 : T.dat h 9 w = some d2) (e3 : T.dat h 9 z = some d3) (q : NotLet t z h) : m_accepts [frT t w z, .non] h = .ok (.bl false) h := by
  refine acc_pat (d := .tuple [.str "free", d1, d2, d3]) ?_ rfl rfl (in_free h) (shows_no rfl rfl q) ⟨_, rfl⟩
  unfold T.dat
  simp only [List.mapM_cons, List.mapM_nil, e1, e2, e3, dat_str, Option.pure_def, Option.bind_eq_bind, Option.bind_some, Option.map_some]
theorem acc_free_odd {G : List (List Nat)} {W H : Nat} (D : Dim G W H) (M : K33.Mut G W H) {w : T} (nw : NoWay w) {d : PyData} {h : VH} (e : T.dat h 9 w = some d) {n : Int} (hn : 0 < n) : m_accepts [frT (.str (spell G)) w (.int n), .non] h = .ok (.bl false) h := by
  refine acc_pat (d := .tuple [.str "free", .str (spell G), d, .int n]) ?_ rfl rfl (in_free h) ?_ ⟨_, rfl⟩
  · unfold T.dat
    simp only [List.mapM_cons, List.mapM_nil, e, dat_str, dat_int, Option.pure_def, Option.bind_eq_bind, Option.bind_some, Option.map_some]
  obtain ⟨s1, s2⟩ := sp_begin D M (x := "free") (ts := [.str (spell G), w, .int n]) (p := .non) (h := h) hn rfl rfl
  have c3 : sp3 [some (frT (.str (spell G)) w (.int n)), some .non, some (rowsT G), none] h = .ok false h := by with_unfolding_all rfl
  show defM 4 2 s_shows_pattern _ _ = _
  rw [sp_eq]
  exact defM_rt rfl ((seq_nx s1).trans ((seq_nx ((if_f s2).trans rfl)).trans ((seq_nx ((if_f c3).trans rfl)).trans (ret_ok (nw.no _ _ _ h rfl)))))
end K61

set_option Elab.async false
set_option linter.all false
set_option maxRecDepth 100000
set_option maxHeartbeats 4000000
namespace K61
open K33
open K58
open K57
open PySem L2 TL KG
def no : MS := sRet (eK (.bl false))
def g1 : MS := (sPar 2 3 (aCons (eOp TL.bAdd (eK (.int 1)) (eCall m_law_take (aCons (eVar 0) (aCons (eK (.int 5)) aNil)))) (aCons (eOp TL.bAdd (eK (.int 1)) (eCall m_law_take (aCons (eVar 0) (aCons (eK (.int 5)) aNil)))) aNil)))
def g2 : MS := (sSet 4 (eCall m_law_bent_tile (aCons (eVar 0) (aCons (eCall m_law_tile_text (aCons (eCall m_law_tile (aCons (eVar 0) (aCons (eVar 2) (aCons (eVar 3) (aCons (eK (.int 20)) aNil))))) aNil)) aNil))))
def g3 : MS := (sSet 5 (eCall m_law_tile_read (aCons (eVar 4) aNil)))
def waysE : ME := (eL (aLim (aCons (eK (.str "e")) (aCons (eK (.str "n")) (aCons (eK (.str "a")) (aCons (eK (.str "b")) (aCons (eK (.str "e")) (aCons (eK (.str "n")) (aCons (eK (.str "")) (aCons (eK (.str "E")) (aCons (eK (.str "en")) (aCons (eK .non) (aCons (eK (.int 0)) (aCons (eTup (aCons (eK (.str "e")) aNil)) (aCons (eK (.str "6")) aNil)))))))))))))))
def sizesE : ME := (eL (aLim (aCons (eK (.int 1)) (aCons (eK (.int 2)) (aCons (eK (.int 3)) (aCons (eK (.int 7)) (aCons (eOp bPow (eK (.int 10)) (eK (.int 30))) (aCons (eK (.int 0)) (aCons (eNeg (eK (.int 1))) (aCons (eK .non) (aCons (eK (.bl true)) (aCons (eK (.str "2")) (aCons (eTup (aCons (eK (.int 2)) aNil)) (aCons (eK (.bl false)) aNil))))))))))))))
def g4 : MS := (sSet 6 (eCall m_law_of (aCons (eVar 0) (aCons waysE aNil))))
def g5 : MS := (sSet 7 (eCall m_law_of (aCons (eVar 0) (aCons sizesE aNil))))
def g6 : MS := (sSet 8 (eAnd (eOp bNe (eVar 5) (eL (aLim aNil))) (eAnd (eCall m_law_whole (aCons (eVar 7) aNil)) (eOp bGt (eVar 7) (eK (.int 0))))))
def g7I : MI := (iSeqC (eL (aLim (aCons (eK (.str "6")) (aCons (eK (.str "8")) (aCons (eK (.str "9")) (aCons (eK (.str "7")) aNil)))))))
def g7C : MB := (TL.bAnd (bTest (eVar 8)) (bTest (eCall m_law_run_free (aCons (eVar 5) (aCons (eVar 10) (aCons (eVar 7) aNil))))))
def g7 : MS := (sSet 9 (eL (mLc g7I [10] (mgName 10) g7C (eVar 10))))
def g8 : MB := (TL.bNot (bTest (eCall m_law_judge (aCons (eTup (aCons (eK (.str "held")) (aCons (eVar 4) (aCons (eVar 7) aNil)))) (aCons (eK .non) (aCons (eAnd (eVar 8) (eOp TL.bEq (eVar 9) (eL (aLim aNil)))) aNil))))))
def g9 : MS := (sSet 11 (eDisp (pCons (eK (.str "e")) (eK (.str "6")) (pCons (eK (.str "n")) (eK (.str "8")) (pCons (eK (.str "a")) (eK (.str "9")) (pCons (eK (.str "b")) (eK (.str "7")) pNil))))))
def g10 : MS := (sSet 12 (eAnd (eVar 8) (eAnd (eIsi (.b "str") (eVar 6)) (eOp bInD (eVar 6) (eVar 11)))))
def g11 : MS := (sSet 12 (eAnd (eVar 12) (eCall m_law_run_free (aCons (eVar 5) (aCons (eOp bGetD (eVar 11) (eVar 6)) (aCons (eVar 7) aNil))))))
def g12 : MB := (TL.bNot (bTest (eCall m_law_judge (aCons (eTup (aCons (eK (.str "free")) (aCons (eVar 4) (aCons (eVar 6) (aCons (eVar 7) aNil))))) (aCons (eK .non) (aCons (eVar 12) aNil))))))
def gbody : MS := sSeq g1 (sSeq g2 (sSeq g3 (sSeq g4 (sSeq g5 (sSeq g6 (sSeq g7 (sSeq (sIf g8 no sNil) (sSeq g9 (sSeq g10 (sSeq g11 (sIf g12 no sNil)))))))))))
theorem right_eq : s_law_right = sSeq (sFor (iRange1 (aCons (eK (.int 16)) aNil)) (mgName 1) gbody) (sRet (eK (.bl true))) := rfl
abbrev cst (n : Nat) (i W H t r w z f o g d u : Option T) : TS_ := [some (.ref n), i, W, H, t, r, w, z, f, o, g, d, u]
theorem merge_sgs : mergeT [] sgs = some sgs := by with_unfolding_all rfl
theorem sgs_low (m : Nat) : VO.lowR m (.dct sgs) = true := by rfl
theorem spell_len {G : List (List Nat)} {W H : Nat} (D : Dim G W H) : (spell G).length ≤ 400 := by
  have e : (spell G).length = (Str.join "/" (G.reverse.map rowS)).length := rfl
  have s := rows_sum D
  have l : (G.reverse.map rowS).length ≤ 12 := by rw [List.length_map, List.length_reverse, D.len]; exact D.h1
  have key : ∀ l : List Str, (Str.join "/" l).length ≤ (l.map (·.length)).sum + l.length := by
    intro l
    induction l with
    | nil => decide
    | cons x l ih =>
      cases l with
      | nil => simp [Str.join]
      | cons y l =>
        have e : Str.join "/" (x :: y :: l) = x ++ "/" ++ Str.join "/" (y :: l) := rfl
        rw [e, TL.len_app, TL.len_app]
        have : (("/" : String) : Str).length = 1 := by decide
        simp only [List.map_cons, List.sum_cons, List.length_cons] at ih ⊢
        omega
  have := key (G.reverse.map rowS)
  rw [e]
  omega
def Rd (t r : T) : Prop := (Bad t ∧ r = .lst []) ∨ ∃ G W H, Good G W H t ∧ r = rowsT G
/-- the first half of a turn: the text, the reading, the way, the size -/
theorem first_half {n : Nat} {h : VH} (I : Iv n h) (i W0 H0 t0 r0 w0 z0 f o g d u : Option T) : ∃ (h' : VH) (W H : Option T) (t r w z : T), Iv n h' ∧ Tx t ∧ w ∈ ways ∧ z ∈ sizes ∧ Rd t r ∧
    (∀ X : MS, sSeq g1 (sSeq g2 (sSeq g3 (sSeq g4 (sSeq g5 X)))) (cst n i W0 H0 t0 r0 w0 z0 f o g d u) h = X (cst n i W H (some t) (some r) (some w) (some z) f o g d u) h') := by
  obtain ⟨p1, k1, e1, b1, I1, _⟩ := take_ok (R := []) (k := 5) I (by omega) (by omega)
  obtain ⟨p2, k2, e2, b2, I2, _⟩ := take_ok (R := []) (k := 5) I1 (by omega) (by omega)
  simp only [List.append_nil] at e1 e2
  obtain ⟨G, k3, e3, I3, _, D, M⟩ := tile_ok (W := p1 + 1) (H := p2 + 1) (K := 20) I2 (by omega) (by omega) (by omega) (by omega) (by omega)
  obtain ⟨t, k4, e4, tx, I4, _⟩ := bent_ok I3 (spell_len D)
  obtain ⟨r, rd, e5⟩ : ∃ r, Rd t r ∧ m_law_tile_read [t] k4 = .ok r k4 := by
    rcases tell tx with b | ⟨G, W, H, g⟩
    · exact ⟨_, .inl ⟨b, rfl⟩, b.read k4 I4.fl⟩
    · exact ⟨_, .inr ⟨G, W, H, g, rfl⟩, g.read k4 I4.fl⟩
  obtain ⟨p6, k6, w, e6, b6, I6, _⟩ := of_ok (R := []) (ts := ways) I4 (by decide) (by decide)
  obtain ⟨p7, k7, z, e7, b7, I7, _⟩ := of_ok (R := []) (ts := sizes) I6 (by decide) (by decide)
  simp only [List.append_nil] at e6 e7
  refine ⟨k7, some (.int ((p1 + 1 : Nat) : Int)), some (.int ((p2 + 1 : Nat) : Int)), t, r, w, z, I7, tx, List.mem_of_getElem? b6, List.mem_of_getElem? b7, rd, fun X => ?_⟩
  have s1 : g1 (cst n i W0 H0 t0 r0 w0 z0 f o g d u) h = .nx (cst n i (some (.int ((p1 + 1 : Nat) : Int))) (some (.int ((p2 + 1 : Nat) : Int))) t0 r0 w0 z0 f o g d u) k2 := by
    have A := (op_ok (b := TL.bAdd) (rfl : eK (.int 1) (cst n i W0 H0 t0 r0 w0 z0 f o g d u) h = .ok (.int 1) h) ((call_ok (b := m_law_take) (ts := [.ref n, .int 5]) (g := (aCons (eVar 0) (aCons (eK (.int 5)) aNil))) rfl).trans e1)).trans (add_i _ _ _)
    have B := (op_ok (b := TL.bAdd) (rfl : eK (.int 1) (cst n i W0 H0 t0 r0 w0 z0 f o g d u) k1 = .ok (.int 1) k1) ((call_ok (b := m_law_take) (ts := [.ref n, .int 5]) (g := (aCons (eVar 0) (aCons (eK (.int 5)) aNil))) rfl).trans e2)).trans (add_i _ _ _)
    have q : ∀ p : Nat, (1 : Int) + (p : Nat) = ((p + 1 : Nat) : Int) := fun p => by omega
    rw [q] at A B
    unfold g1 sPar
    rw [cons_ok A (cons_ok B (rfl : aNil _ k2 = .ok [] k2))]
    rfl
  have s2 : g2 (cst n i (some (.int ((p1 + 1 : Nat) : Int))) (some (.int ((p2 + 1 : Nat) : Int))) t0 r0 w0 z0 f o g d u) k2 = .nx (cst n i (some (.int ((p1 + 1 : Nat) : Int))) (some (.int ((p2 + 1 : Nat) : Int))) (some t) r0 w0 z0 f o g d u) k4 := by
    obtain ⟨τ, hτ⟩ : ∃ τ, τ = cst n i (some (.int ((p1 + 1 : Nat) : Int))) (some (.int ((p2 + 1 : Nat) : Int))) t0 r0 w0 z0 f o g d u := ⟨_, rfl⟩
    rw [← hτ]
    have v0 : ∀ k, eVar 0 τ k = .ok (.ref n) k := fun k => by rw [hτ]; rfl
    have v2 : eVar 2 τ k2 = .ok (.int ((p1 + 1 : Nat) : Int)) k2 := by rw [hτ]; rfl
    have v3 : eVar 3 τ k2 = .ok (.int ((p2 + 1 : Nat) : Int)) k2 := by rw [hτ]; rfl
    have nil : ∀ k, aNil τ k = .ok [] k := fun _ => rfl
    have A := (call_ok (b := m_law_tile) (cons_ok (v0 k2) (cons_ok v2 (cons_ok v3 (cons_ok (rfl : eK (.int 20) τ k2 = .ok (.int 20) k2) (nil k2)))))).trans e3
    have B := (call_ok (b := m_law_tile_text) (cons_ok A (nil k3))).trans (text_ok D k3)
    have A' := op_ok (b := fun _ t h => Res.ok t h) (v0 k2) B
    -- the text's draws come first, then the bending
    have C : aCons (eVar 0) (aCons (eCall m_law_tile_text (aCons (eCall m_law_tile (aCons (eVar 0) (aCons (eVar 2) (aCons (eVar 3) (aCons (eK (.int 20)) aNil))))) aNil)) aNil) τ k2 = .ok [.ref n, .str (spell G)] k3 := cons_ok (v0 k2) (cons_ok B (nil k3))
    refine (set_ok (i := 4) ((call_ok (b := m_law_bent_tile) C).trans e4)).trans ?_
    rw [hτ]
    rfl
  have s3 : g3 (cst n i (some (.int ((p1 + 1 : Nat) : Int))) (some (.int ((p2 + 1 : Nat) : Int))) (some t) r0 w0 z0 f o g d u) k4 = .nx (cst n i (some (.int ((p1 + 1 : Nat) : Int))) (some (.int ((p2 + 1 : Nat) : Int))) (some t) (some r) w0 z0 f o g d u) k4 := set_ok (i := 5) ((call_ok (ts := [t]) rfl).trans e5)
  have s4 : g4 (cst n i (some (.int ((p1 + 1 : Nat) : Int))) (some (.int ((p2 + 1 : Nat) : Int))) (some t) (some r) w0 z0 f o g d u) k4 = .nx (cst n i (some (.int ((p1 + 1 : Nat) : Int))) (some (.int ((p2 + 1 : Nat) : Int))) (some t) (some r) (some w) z0 f o g d u) k6 := set_ok (i := 6) ((call_ok (ts := [.ref n, .lst ways]) rfl).trans e6)
  have s5 : g5 (cst n i (some (.int ((p1 + 1 : Nat) : Int))) (some (.int ((p2 + 1 : Nat) : Int))) (some t) (some r) (some w) z0 f o g d u) k6 = .nx (cst n i (some (.int ((p1 + 1 : Nat) : Int))) (some (.int ((p2 + 1 : Nat) : Int))) (some t) (some r) (some w) (some z) f o g d u) k7 := by
    have S : sizesE (cst n i (some (.int ((p1 + 1 : Nat) : Int))) (some (.int ((p2 + 1 : Nat) : Int))) (some t) (some r) (some w) z0 f o g d u) k6 = .ok (.lst sizes) k6 := by
      have P : eOp bPow (eK (.int 10)) (eK (.int 30)) (cst n i (some (.int ((p1 + 1 : Nat) : Int))) (some (.int ((p2 + 1 : Nat) : Int))) (some t) (some r) (some w) z0 f o g d u) k6 = .ok (.int (10 ^ 30)) k6 := by
        refine (op_ok (b := bPow) (rfl : eK (.int 10) _ k6 = .ok (.int 10) k6) (rfl : eK (.int 30) _ k6 = .ok (.int 30) k6)).trans ?_
        rfl
      refine eL_ok ?_
      unfold aLim
      rw [cons_ok (t := .int 1) rfl (cons_ok (t := .int 2) rfl (cons_ok (t := .int 3) rfl (cons_ok (t := .int 7) rfl (cons_ok P (rfl : aCons (eK (.int 0)) (aCons (eNeg (eK (.int 1))) (aCons (eK .non) (aCons (eK (.bl true)) (aCons (eK (.str "2")) (aCons (eTup (aCons (eK (.int 2)) aNil)) (aCons (eK (.bl false)) aNil)))))) _ k6 = .ok [.int 0, .int (-1), .non, .bl true, .str "2", .tup [.int 2], .bl false] k6)))))]
      rfl
    exact set_ok (i := 7) ((call_ok (cons_ok (rfl : eVar 0 (cst n i (some (.int ((p1 + 1 : Nat) : Int))) (some (.int ((p2 + 1 : Nat) : Int))) (some t) (some r) (some w) z0 f o g d u) k6 = .ok (.ref n) k6) (cons_ok S rfl))).trans e7)
  exact (seq_nx s1).trans ((seq_nx s2).trans ((seq_nx s3).trans ((seq_nx s4).trans (seq_nx s5))))
end K61

set_option Elab.async false
set_option linter.all false
set_option maxRecDepth 100000
set_option maxHeartbeats 4000000
namespace K61
open K33
open K58
open K57
open PySem L2 TL KG
theorem eq_nil {l : List Str} (h : VH) : TL.bEq (.lst (l.map T.str)) (.lst []) h = .ok (.bl l.isEmpty) h := by
  have e1 : T.dat h 10 (.lst (l.map T.str)) = some (.list (l.map PyData.str)) := by
    rw [dat_lst, List.mapM_map]
    have := mapM_some (f := fun z => T.dat h 9 (.str z)) (g := PyData.str) (l := l) fun z _ => dat_str
    have e2 : List.mapM ((T.dat h 9) ∘ T.str) l = some (l.map PyData.str) := this
    first | rw [this] | rw [e2]
    rfl
  have e2 : T.dat h 10 (.lst []) = some (.list []) := rfl
  unfold TL.bEq bEqG
  rw [e1, e2]
  cases l <;> simp [PyData.eqv, PyData.eqvAll]
theorem dig_inj {a b : Nat} (e : dig a = dig b) : a = b := by
  unfold dig at e
  injection e with e
  injection e with e
  injection e with e
  omega
def ss : List Str := four.map dig
theorem g7I_ok (τ : TS_) (h : VH) : g7I τ h = .ok (fun h => seqS h (.lst (ss.map T.str))) h := by
  with_unfolding_all rfl
abbrev dst (n : Nat) (i W H : Option T) (t r w z : T) (f o g d u : Option T) : TS_ := cst n i W H (some t) (some r) (some w) (some z) f o g d u
/-- nothing is let: the text or the size is none -/
theorem not_fine {n : Nat} {h : VH} (I : Iv n h) {t r w z : T} (tx : Tx t) (hw : w ∈ ways) (hz : z ∈ sizes)
    (q : ∀ h, NotLet t z h) (i W H f o g d u : Option T) (hq : eAnd (eOp bNe (eVar 5) (eL (aLim aNil))) (eAnd (eCall m_law_whole (aCons (eVar 7) aNil)) (eOp bGt (eVar 7) (eK (.int 0)))) (dst n i W H t r w z f o g d u) h = .ok (.bl false) h) :
    ∃ (h' : VH) (f' o' g' d' u' : Option T), sSeq g6 (sSeq g7 (sSeq (sIf g8 no sNil) (sSeq g9 (sSeq g10 (sSeq g11 (sIf g12 no sNil)))))) (dst n i W H t r w z f o g d u) h = .nx (dst n i W H t r w z f' o' g' d' u') h' ∧ Iv n h' := by
  obtain ⟨dt, et⟩ := tx_dat tx
  obtain ⟨⟨dw, eww⟩, _⟩ := way_of hw
  obtain ⟨⟨dz, ez⟩, _⟩ := num_of hz
  have s6 : g6 (dst n i W H t r w z f o g d u) h = .nx (dst n i W H t r w z (some (.bl false)) o g d u) h := set_ok (i := 8) hq
  have s7 : g7 (dst n i W H t r w z (some (.bl false)) o g d u) h = .nx (dst n i W H t r w z (some (.bl false)) (some (.lst [])) g d u) h := by
    have y := mLc_pure (mi := g7I) (ws := [10]) (g := mgName 10) (c := g7C) (e := eVar 10) (τ := dst n i W H t r w z (some (.bl false)) o g d u) (h := h) (ts := ss.map T.str) (g7I_ok _ h) rfl (by decide) (fun _ => false) (fun t => t) (fun a ha => ⟨_, rfl, band_f (h1 := h) rfl, fun z => Bool.noConfusion z⟩)
    refine (set_ok (i := 9) (eL_ok y)).trans ?_
    rw [List.filter_eq_nil_iff.mpr (fun _ _ => Bool.false_ne_true)]
    rfl
  have s8 : g8 (dst n i W H t r w z (some (.bl false)) (some (.lst [])) g d u) h = .ok false h := by
    have J := judge_ok (acc_held_no (et h) (ez h) (q h))
    refine not_ok (b := true) (test_ok ((call_ok (b := m_law_judge) (ts := [heT t z, .non, .bl false]) (h1 := h) ?_).trans J))
    exact cons_ok (rfl : eTup (aCons (eK (.str "held")) (aCons (eVar 4) (aCons (eVar 7) aNil))) _ h = .ok (heT t z) h) (cons_ok (rfl : eK .non _ h = .ok .non h) (cons_ok (and_f (h1 := h) rfl) (rfl : aNil _ h = .ok [] h)))
  have s9 : g9 (dst n i W H t r w z (some (.bl false)) (some (.lst [])) g d u) h = .nx (dst n i W H t r w z (some (.bl false)) (some (.lst [])) g (some (.ref h.length)) u) (h ++ [VO.dct sgs]) := by
    refine (set_ok (i := 11) (t := .ref h.length) (h1 := h ++ [VO.dct sgs]) ?_).trans rfl
    have y : (pCons (eK (.str "e")) (eK (.str "6")) (pCons (eK (.str "n")) (eK (.str "8")) (pCons (eK (.str "a")) (eK (.str "9")) (pCons (eK (.str "b")) (eK (.str "7")) pNil)))) (dst n i W H t r w z (some (.bl false)) (some (.lst [])) g d u) h = .ok sgs h := rfl
    unfold eDisp
    rw [y]
    simp only [merge_sgs]
    rfl
  obtain ⟨k, hk⟩ : ∃ k, k = h ++ [VO.dct sgs] := ⟨_, rfl⟩
  have Ik : Iv n k := by rw [hk]; exact I.app sgs_low
  rw [← hk] at s9
  have s10 : g10 (dst n i W H t r w z (some (.bl false)) (some (.lst [])) g (some (.ref h.length)) u) k = .nx (dst n i W H t r w z (some (.bl false)) (some (.lst [])) g (some (.ref h.length)) (some (.bl false))) k := set_ok (i := 12) (and_f (h1 := k) rfl)
  have s11 : g11 (dst n i W H t r w z (some (.bl false)) (some (.lst [])) g (some (.ref h.length)) (some (.bl false))) k = .nx (dst n i W H t r w z (some (.bl false)) (some (.lst [])) g (some (.ref h.length)) (some (.bl false))) k := set_ok (i := 12) (and_f (h1 := k) rfl)
  have s12 : g12 (dst n i W H t r w z (some (.bl false)) (some (.lst [])) g (some (.ref h.length)) (some (.bl false))) k = .ok false k := by
    have J := judge_ok (acc_free_no (et k) (eww k) (ez k) (q k))
    exact not_ok (b := true) (test_ok ((call_ok (b := m_law_judge) (ts := [frT t w z, .non, .bl false]) (h1 := k) rfl).trans J))
  exact ⟨k, _, _, _, _, _, (seq_nx s6).trans ((seq_nx s7).trans ((seq_nx ((if_f s8).trans rfl)).trans ((seq_nx s9).trans ((seq_nx s10).trans ((seq_nx s11).trans ((if_f s12).trans rfl)))))), Ik⟩
end K61

set_option Elab.async false
set_option linter.all false
set_option maxRecDepth 100000
set_option maxHeartbeats 4000000
namespace K61
open K33
open K58
open K57
open PySem L2 TL KG
section
variable {G : List (List Nat)} {W0 H0 : Nat}
noncomputable def pS (G : List (List Nat)) (W0 H0 : Nat) (n : Int) : Str → Bool := fun s => @decide (∃ a, a ∈ four ∧ s = dig a ∧ Run G W0 H0 a n) (Classical.propDecidable _)
theorem pS_iff {n : Int} {a : Nat} (ha : a ∈ four) : pS G W0 H0 n (dig a) = true ↔ Run G W0 H0 a n := by
  unfold pS
  refine Iff.trans (@decide_eq_true_iff _ (Classical.propDecidable _)) ?_
  exact ⟨fun ⟨b, _, e, r⟩ => by rw [dig_inj e]; exact r, fun r => ⟨a, ha, rfl, r⟩⟩
theorem held_iff {n : Int} : (ss.filter (pS G W0 H0 n)).isEmpty = true ↔ Held G W0 H0 n := by
  rw [List.isEmpty_iff, List.filter_eq_nil_iff]
  refine ⟨fun h a ha r => h (dig a) (List.mem_map.mpr ⟨a, ha, rfl⟩) ((pS_iff ha).mpr r), fun h s hs z => ?_⟩
  obtain ⟨a, ha, rfl⟩ := List.mem_map.mp hs
  exact h a ha ((pS_iff ha).mp z)
/-- a pattern and a size -/
theorem fine {n : Nat} {h : VH} (I : Iv n h) {t w : T} (g : Good G W0 H0 t) (hw : w ∈ ways) {sz : Int} (hn : 0 < sz) (i W H f o gg d u : Option T) :
    ∃ (h' : VH) (f' o' g' d' u' : Option T), sSeq g6 (sSeq g7 (sSeq (sIf g8 no sNil) (sSeq g9 (sSeq g10 (sSeq g11 (sIf g12 no sNil)))))) (dst n i W H t (rowsT G) w (.int sz) f o gg d u) h = .nx (dst n i W H t (rowsT G) w (.int sz) f' o' g' d' u') h' ∧ Iv n h' := by
  obtain ⟨⟨dw, eww⟩, ww⟩ := way_of hw
  have D := g.D
  have M := g.M
  have te := g.eq
  subst te
  have F := Fig.ofMut D M
  have nn : bNe (rowsT G) (.lst []) h = .ok (.bl true) h := by
    have z := ne_nil (l := G.map rowS) h
    rw [List.map_map] at z
    have e : (G.map rowS).isEmpty = false := by
      have := D.len
      have := D.h0
      cases G with
      | nil => simp at *; omega
      | cons _ _ => rfl
    rw [e] at z
    exact z
  have s6 : g6 (dst n i W H (.str (spell G)) (rowsT G) w (.int sz) f o gg d u) h = .nx (dst n i W H (.str (spell G)) (rowsT G) w (.int sz) (some (.bl true)) o gg d u) h := by
    have A := (op_ok (b := bNe) (rfl : eVar 5 (dst n i W H (.str (spell G)) (rowsT G) w (.int sz) f o gg d u) h = .ok (rowsT G) h) (rfl : eL (aLim aNil) (dst n i W H (.str (spell G)) (rowsT G) w (.int sz) f o gg d u) h = .ok (.lst []) h)).trans nn
    have v7 : eVar 7 (dst n i W H (.str (spell G)) (rowsT G) w (.int sz) f o gg d u) h = .ok (.int sz) h := rfl
    have B : eCall m_law_whole (aCons (eVar 7) aNil) (dst n i W H (.str (spell G)) (rowsT G) w (.int sz) f o gg d u) h = .ok (.bl true) h := (call_ok (b := m_law_whole) (cons_ok v7 rfl)).trans rfl
    have C := (op_ok (b := bGt) v7 (rfl : eK (.int 0) (dst n i W H (.str (spell G)) (rowsT G) w (.int sz) f o gg d u) h = .ok (.int 0) h)).trans (gt_int _ _ h)
    rw [decide_eq_true hn] at C
    exact set_ok (i := 8) ((and_t A).trans ((and_t B).trans C))
  obtain ⟨os, hos⟩ : ∃ os, os = ss.filter (pS G W0 H0 sz) := ⟨_, rfl⟩
  have s7 : g7 (dst n i W H (.str (spell G)) (rowsT G) w (.int sz) (some (.bl true)) o gg d u) h = .nx (dst n i W H (.str (spell G)) (rowsT G) w (.int sz) (some (.bl true)) (some (.lst (os.map T.str))) gg d u) h := by
    have y := mLc_pure (mi := g7I) (ws := [10]) (g := mgName 10) (c := g7C) (e := eVar 10) (τ := dst n i W H (.str (spell G)) (rowsT G) w (.int sz) (some (.bl true)) o gg d u) (h := h) (ts := ss.map T.str) (g7I_ok _ h) rfl (by decide) (fun t => match t with | .str s => pS G W0 H0 sz s | _ => true) (fun t => t) (fun a ha => by
      obtain ⟨s, hs, rfl⟩ := List.mem_map.mp ha
      obtain ⟨a, h4, rfl⟩ := List.mem_map.mp hs
      obtain ⟨a1, a2, a3⟩ := four_ok h4
      obtain ⟨b, e, iff⟩ := run_ok D a1 a2 a3 hn (I.fl.low h.length)
      refine ⟨dst n i W H (.str (spell G)) (rowsT G) w (.int sz) (some (.bl true)) o (some (.str (dig a))) d u, rfl, ?_, fun _ => rfl⟩
      have eb : pS G W0 H0 sz (dig a) = b := by rw [Bool.eq_iff_iff]; exact (pS_iff h4).trans iff.symm
      refine (band_t (h1 := h) rfl).trans ?_
      show _ = Res.ok (pS G W0 H0 sz (dig a)) h
      rw [eb]
      exact test_ok ((call_ok (b := m_law_run_free) (ts := [rowsT G, sg a, .int sz]) (h1 := h) rfl).trans e))
    refine (set_ok (i := 9) (eL_ok y)).trans ?_
    rw [List.filter_map, List.map_id', hos]
    rfl
  have hd : ∃ b, m_accepts [heC G sz, .non] h = .ok (.bl b) h ∧ os.isEmpty = b := by
    obtain ⟨b, e, iff⟩ := acc_held D F hn h
    refine ⟨b, e, ?_⟩
    rw [Bool.eq_iff_iff, hos, held_iff, iff]
    exact ⟨fun z => ⟨(mAll_iff D F).mpr M, z⟩, fun z => z.2⟩
  obtain ⟨b, eb, ob⟩ := hd
  have s8 : g8 (dst n i W H (.str (spell G)) (rowsT G) w (.int sz) (some (.bl true)) (some (.lst (os.map T.str))) gg d u) h = .ok false h := by
    have J := judge_ok eb
    have A := (op_ok (b := TL.bEq) (rfl : eVar 9 (dst n i W H (.str (spell G)) (rowsT G) w (.int sz) (some (.bl true)) (some (.lst (os.map T.str))) gg d u) h = .ok (.lst (os.map T.str)) h) (rfl : eL (aLim aNil) (dst n i W H (.str (spell G)) (rowsT G) w (.int sz) (some (.bl true)) (some (.lst (os.map T.str))) gg d u) h = .ok (.lst []) h)).trans (eq_nil h)
    rw [ob] at A
    refine not_ok (b := true) (test_ok ((call_ok (b := m_law_judge) (ts := [heC G sz, .non, .bl b]) (h1 := h) ?_).trans J))
    exact cons_ok (rfl : eTup (aCons (eK (.str "held")) (aCons (eVar 4) (aCons (eVar 7) aNil))) _ h = .ok (heC G sz) h) (cons_ok (rfl : eK .non _ h = .ok .non h) (cons_ok ((and_t (h1 := h) rfl).trans A) (rfl : aNil _ h = .ok [] h)))
  have s9 : g9 (dst n i W H (.str (spell G)) (rowsT G) w (.int sz) (some (.bl true)) (some (.lst (os.map T.str))) gg d u) h = .nx (dst n i W H (.str (spell G)) (rowsT G) w (.int sz) (some (.bl true)) (some (.lst (os.map T.str))) gg (some (.ref h.length)) u) (h ++ [VO.dct sgs]) := by
    refine (set_ok (i := 11) (t := .ref h.length) (h1 := h ++ [VO.dct sgs]) ?_).trans rfl
    have y : (pCons (eK (.str "e")) (eK (.str "6")) (pCons (eK (.str "n")) (eK (.str "8")) (pCons (eK (.str "a")) (eK (.str "9")) (pCons (eK (.str "b")) (eK (.str "7")) pNil)))) (dst n i W H (.str (spell G)) (rowsT G) w (.int sz) (some (.bl true)) (some (.lst (os.map T.str))) gg d u) h = .ok sgs h := rfl
    unfold eDisp
    rw [y]
    simp only [merge_sgs]
    rfl
  obtain ⟨k, hk⟩ : ∃ k, k = h ++ [VO.dct sgs] := ⟨_, rfl⟩
  have Ik : Iv n k := by rw [hk]; exact I.app sgs_low
  have at_ : k[h.length]? = some (.dct sgs) := by rw [hk]; simp
  rw [← hk] at s9
  obtain ⟨os', hos'⟩ : ∃ x, x = some (T.lst (os.map T.str)) := ⟨_, rfl⟩
  rw [← hos'] at s7 s8 s9
  have end_ : ∃ b : Bool, sSeq g10 (sSeq g11 (sIf g12 no sNil)) (dst n i W H (.str (spell G)) (rowsT G) w (.int sz) (some (.bl true)) os' gg (some (.ref h.length)) u) k = .nx (dst n i W H (.str (spell G)) (rowsT G) w (.int sz) (some (.bl true)) os' gg (some (.ref h.length)) (some (.bl b))) k := by
    have fin : ∀ b : Bool, m_accepts [frT (.str (spell G)) w (.int sz), .non] k = .ok (.bl b) k → g12 (dst n i W H (.str (spell G)) (rowsT G) w (.int sz) (some (.bl true)) os' gg (some (.ref h.length)) (some (.bl b))) k = .ok false k := fun b e =>
      not_ok (b := true) (test_ok ((call_ok (b := m_law_judge) (ts := [frT (.str (spell G)) w (.int sz), .non, .bl b]) (h1 := k) rfl).trans (judge_ok e)))
    rcases ww with nw | ⟨v, a, l, rfl⟩
    · have s10 : g10 (dst n i W H (.str (spell G)) (rowsT G) w (.int sz) (some (.bl true)) os' gg (some (.ref h.length)) u) k = .nx (dst n i W H (.str (spell G)) (rowsT G) w (.int sz) (some (.bl true)) os' gg (some (.ref h.length)) (some (.bl false))) k :=
        set_ok (i := 12) ((and_t (h1 := k) rfl).trans (nw.law (eVar 6) _ k h.length rfl rfl at_))
      have s11 : g11 (dst n i W H (.str (spell G)) (rowsT G) w (.int sz) (some (.bl true)) os' gg (some (.ref h.length)) (some (.bl false))) k = .nx (dst n i W H (.str (spell G)) (rowsT G) w (.int sz) (some (.bl true)) os' gg (some (.ref h.length)) (some (.bl false))) k := set_ok (i := 12) (and_f (h1 := k) rfl)
      exact ⟨false, (seq_nx s10).trans ((seq_nx s11).trans ((if_f (fin false (acc_free_odd D M nw (eww k) hn))).trans rfl))⟩
    · obtain ⟨a1, a2, a3⟩ := l.lt
      obtain ⟨b, e, iff⟩ := run_ok D a1 a2 a3 hn (Ik.fl.low k.length)
      obtain ⟨b2, e2, iff2⟩ := acc_free D M l.way hn k
      have bb : b2 = b := by rw [Bool.eq_iff_iff]; exact iff2.trans iff.symm
      rw [bb] at e2
      have s10 : g10 (dst n i W H (.str (spell G)) (rowsT G) (.str v) (.int sz) (some (.bl true)) os' gg (some (.ref h.length)) u) k = .nx (dst n i W H (.str (spell G)) (rowsT G) (.str v) (.int sz) (some (.bl true)) os' gg (some (.ref h.length)) (some (.bl true))) k := by
        refine set_ok (i := 12) ((and_t (h1 := k) rfl).trans ((and_t (h1 := k) rfl).trans ((op_ok (b := bInD) (rfl : eVar 6 _ k = .ok (.str v) k) (rfl : eVar 11 _ k = .ok (.ref h.length) k)).trans ?_)))
        simp only [bInD, bInDG, at_, keyT, l.get]
        rfl
      have s11 : g11 (dst n i W H (.str (spell G)) (rowsT G) (.str v) (.int sz) (some (.bl true)) os' gg (some (.ref h.length)) (some (.bl true))) k = .nx (dst n i W H (.str (spell G)) (rowsT G) (.str v) (.int sz) (some (.bl true)) os' gg (some (.ref h.length)) (some (.bl b))) k := by
        have A : eOp bGetD (eVar 11) (eVar 6) (dst n i W H (.str (spell G)) (rowsT G) (.str v) (.int sz) (some (.bl true)) os' gg (some (.ref h.length)) (some (.bl true))) k = .ok (sg a) k := by
          refine (op_ok (b := bGetD) (rfl : eVar 11 _ k = .ok (.ref h.length) k) (rfl : eVar 6 _ k = .ok (.str v) k)).trans ?_
          simp only [bGetD, at_, keyT, l.get]
        refine set_ok (i := 12) ((and_t (h1 := k) rfl).trans ((call_ok (b := m_law_run_free) (ts := [rowsT G, sg a, .int sz]) (h1 := k) ?_).trans e))
        exact cons_ok (rfl : eVar 5 _ k = .ok (rowsT G) k) (cons_ok A (rfl : aCons (eVar 7) aNil _ k = .ok [.int sz] k))
      exact ⟨b, (seq_nx s10).trans ((seq_nx s11).trans ((if_f (fin b e2)).trans rfl))⟩
  obtain ⟨b', z⟩ := end_
  exact ⟨k, _, _, _, _, _, (seq_nx s6).trans ((seq_nx s7).trans ((seq_nx ((if_f s8).trans rfl)).trans ((seq_nx s9).trans z))), Ik⟩
end
theorem body_ok {n : Nat} {h : VH} (I : Iv n h) (i a1 a2 a3 a4 a5 a6 a7 a8 a9 a10 a11 : Option T) : ∃ (b1 b2 b3 b4 b5 b6 b7 b8 b9 b10 b11 : Option T) (h' : VH), gbody (cst n i a1 a2 a3 a4 a5 a6 a7 a8 a9 a10 a11) h = .nx (cst n i b1 b2 b3 b4 b5 b6 b7 b8 b9 b10 b11) h' ∧ Iv n h' := by
  obtain ⟨k, W, H, t, r, w, z, I1, tx, hw, hz, rd, e⟩ := first_half I i a1 a2 a3 a4 a5 a6 a7 a8 a9 a10 a11
  show ∃ b1 b2 b3 b4 b5 b6 b7 b8 b9 b10 b11 h', (sSeq g1 (sSeq g2 (sSeq g3 (sSeq g4 (sSeq g5 _))))) _ h = _ ∧ _
  simp only [e]
  have nf : r = .lst [] ∨ (∃ G, r = rowsT G ∧ G ≠ []) ∧ NoNum z → eAnd (eOp bNe (eVar 5) (eL (aLim aNil))) (eAnd (eCall m_law_whole (aCons (eVar 7) aNil)) (eOp bGt (eVar 7) (eK (.int 0)))) (dst n i W H t r w z a7 a8 a9 a10 a11) k = .ok (.bl false) k := by
    rintro (rfl | ⟨⟨G, rfl, ne⟩, nz⟩)
    · exact and_f ((op_ok (b := bNe) (rfl : eVar 5 _ k = .ok (.lst []) k) (rfl : eL (aLim aNil) _ k = .ok (.lst []) k)).trans (ne_nil (l := []) k))
    · have y := ne_nil (l := G.map rowS) k
      rw [List.map_map] at y
      have en : (G.map rowS).isEmpty = false := by cases G with | nil => exact (ne rfl).elim | cons _ _ => rfl
      rw [en] at y
      exact (and_t ((op_ok (b := bNe) (rfl : eVar 5 _ k = .ok (rowsT G) k) (rfl : eL (aLim aNil) _ k = .ok (.lst []) k)).trans y)).trans (nz.fine _ k rfl)
  rcases rd with ⟨bad, rfl⟩ | ⟨G, W0, H0, g, rfl⟩
  · obtain ⟨h', f', o', g', d', u', q, I2⟩ := not_fine I1 tx hw hz (fun h => .inl (bad.told h)) i W H a7 a8 a9 a10 a11 (nf (.inl rfl))
    exact ⟨_, _, _, _, _, _, _, _, _, _, _, _, q, I2⟩
  · obtain ⟨_, zz⟩ := num_of hz
    rcases zz with nz | ⟨sz, hn, rfl⟩
    · have ne : G ≠ [] := by
        rintro rfl
        have := g.D.len
        have := g.D.h0
        simp at *
        omega
      have te := g.eq
      obtain ⟨h', f', o', g', d', u', q, I2⟩ := not_fine I1 tx hw hz (fun h => .inr ⟨⟨G, by rw [te]; exact told_tile g.D g.M h⟩, nz.no h⟩) i W H a7 a8 a9 a10 a11 (nf (.inr ⟨⟨G, rfl, ne⟩, nz⟩))
      exact ⟨_, _, _, _, _, _, _, _, _, _, _, _, q, I2⟩
    · obtain ⟨h', f', o', g', d', u', q, I2⟩ := fine I1 g hw hn i W H a7 a8 a9 a10 a11
      exact ⟨_, _, _, _, _, _, _, _, _, _, _, _, q, I2⟩
theorem right_ok {n : Nat} {h : VH} (I : Iv n h) : ∃ h', m_law_right [.ref n] h = .ok (.bl true) h' ∧ Iv n h' := by
  obtain ⟨τ', h', q1, q2⟩ := sFor_inv (mi := iRange1 (aCons (eK (.int 16)) aNil)) (g := mgName 1) (body := gbody) (τ := startT 13 [.ref n]) (h := h) (h1 := h) (rd := fun _ => some (rangeT 0 16)) (ts := rangeT 0 16)
    (fun _ τ h' => ∃ i a1 a2 a3 a4 a5 a6 a7 a8 a9 a10 a11, τ = cst n i a1 a2 a3 a4 a5 a6 a7 a8 a9 a10 a11 ∧ Iv n h') (rng_ok (K := 16) rfl (by omega)) ⟨_, _, _, _, _, _, _, _, _, _, _, _, rfl, I⟩ (fun _ _ _ _ => rfl) (fun j hj τ h' J => by
      obtain ⟨i, a1, a2, a3, a4, a5, a6, a7, a8, a9, a10, a11, rfl, I'⟩ := J
      obtain ⟨b1, b2, b3, b4, b5, b6, b7, b8, b9, b10, b11, h2, z, I2⟩ := body_ok I' (some (rangeT 0 16)[j]) a1 a2 a3 a4 a5 a6 a7 a8 a9 a10 a11
      exact ⟨cst n (some (rangeT 0 16)[j]) a1 a2 a3 a4 a5 a6 a7 a8 a9 a10 a11, _, _, _, rfl, .inl z, _, _, _, _, _, _, _, _, _, _, _, _, rfl, I2⟩)
  obtain ⟨i, a1, a2, a3, a4, a5, a6, a7, a8, a9, a10, a11, rfl, I'⟩ := q2
  refine ⟨h', ?_, I'⟩
  show defM 13 1 s_law_right _ _ = _
  rw [right_eq]
  exact defM_rt rfl ((seq_nx q1).trans (ret_ok rfl))
theorem pure_law (ns : List Int) (hl : ns.length ≤ 63) : ∃ h', m_law [.arg (ns.map T.int)] [] = .ok (.bl true) h' :=
  cases_ok (m := 5) (by omega) (by omega) (fun ns s h hs hf => bag_ok hs hf) (fun n h I => right_ok I) ns hl
end K61

set_option Elab.async false
set_option linter.all false
set_option maxRecDepth 100000
set_option maxHeartbeats 4000000
namespace K61
open K33
open K58
open K57
open PySem PySem.Spec L2 TL
def top (i : Nat) : Stmt := PySem.Challenge.pw_pairheld_k61_patterns_in_claims.main.body.getD i (.Pass ⟨0, 0, 0, 0⟩)
def mth (i j : Nat) : Stmt := match top i with
  | .ClassDef _ _ _ b _ _ _ _ _ _ _ => b.getD j (.Pass ⟨0, 0, 0, 0⟩)
  | _ => .Pass ⟨0, 0, 0, 0⟩
def cl : ClT := []
def wd (K : PySem.W.Frag) : Wd := wdOf cl K
structure Gs (w : World) (K : PySem.W.Frag) (mg : Str → Option Value) : Prop where
  b_abs : mg "abs" = none
  b_all : mg "all" = none
  b_any : mg "any" = none
  b_bool : mg "bool" = none
  b_divmod : mg "divmod" = none
  b_int : mg "int" = none
  b_isinstance : mg "isinstance" = none
  b_len : mg "len" = none
  b_max : mg "max" = none
  b_min : mg "min" = none
  b_range : mg "range" = none
  b_repr : mg "repr" = none
  b_str : mg "str" = none
  b_tuple : mg "tuple" = none
  f_law_bag : mg "_law_bag" = some (.ref (He.ga K "_law_bag"))
  F_law_bag : FunD K "_law_bag" "_law_bag" (defArgs (top 49)) (defBody (top 49)) (defScope (top 49)) [] [] (He.ga K "_law_bag") (fdOf K (He.ga K "_law_bag"))
  f_law_take : mg "_law_take" = some (.ref (He.ga K "_law_take"))
  F_law_take : FunD K "_law_take" "_law_take" (defArgs (top 50)) (defBody (top 50)) (defScope (top 50)) [] [] (He.ga K "_law_take") (fdOf K (He.ga K "_law_take"))
  f_law_of : mg "_law_of" = some (.ref (He.ga K "_law_of"))
  F_law_of : FunD K "_law_of" "_law_of" (defArgs (top 51)) (defBody (top 51)) (defScope (top 51)) [] [] (He.ga K "_law_of") (fdOf K (He.ga K "_law_of"))
  f_law_bent_tile : mg "_law_bent_tile" = some (.ref (He.ga K "_law_bent_tile"))
  F_law_bent_tile : FunD K "_law_bent_tile" "_law_bent_tile" (defArgs (top 60)) (defBody (top 60)) (defScope (top 60)) [] [] (He.ga K "_law_bent_tile") (fdOf K (He.ga K "_law_bent_tile"))
  f_sign_at : mg "sign_at" = some (.ref (He.ga K "sign_at"))
  F_sign_at : FunD K "sign_at" "sign_at" (defArgs (top 28)) (defBody (top 28)) (defScope (top 28)) [] [] (He.ga K "sign_at") (fdOf K (He.ga K "sign_at"))
  f_free_from : mg "free_from" = some (.ref (He.ga K "free_from"))
  F_free_from : FunD K "free_from" "free_from" (defArgs (top 31)) (defBody (top 31)) (defScope (top 31)) [] [] (He.ga K "free_from") (fdOf K (He.ga K "free_from"))
  f_has_free : mg "has_free" = some (.ref (He.ga K "has_free"))
  F_has_free : FunD K "has_free" "has_free" (defArgs (top 32)) (defBody (top 32)) (defScope (top 32)) [] [] (He.ga K "has_free") (fdOf K (He.ga K "has_free"))
  f_is_whole : mg "is_whole" = some (.ref (He.ga K "is_whole"))
  F_is_whole : FunD K "is_whole" "is_whole" (defArgs (top 6)) (defBody (top 6)) (defScope (top 6)) [] [] (He.ga K "is_whole") (fdOf K (He.ga K "is_whole"))
  f_is_number : mg "is_number" = some (.ref (He.ga K "is_number"))
  F_is_number : FunD K "is_number" "is_number" (defArgs (top 36)) (defBody (top 36)) (defScope (top 36)) [] [] (He.ga K "is_number") (fdOf K (He.ga K "is_number"))
  f_is_mutual_at : mg "is_mutual_at" = some (.ref (He.ga K "is_mutual_at"))
  F_is_mutual_at : FunD K "is_mutual_at" "is_mutual_at" (defArgs (top 29)) (defBody (top 29)) (defScope (top 29)) [] [] (He.ga K "is_mutual_at") (fdOf K (He.ga K "is_mutual_at"))
  f_rows_told : mg "rows_told" = some (.ref (He.ga K "rows_told"))
  F_rows_told : FunD K "rows_told" "rows_told" (defArgs (top 27)) (defBody (top 27)) (defScope (top 27)) [] [] (He.ga K "rows_told") (fdOf K (He.ga K "rows_told"))
  f_tile_told : mg "tile_told" = some (.ref (He.ga K "tile_told"))
  F_tile_told : FunD K "tile_told" "tile_told" (defArgs (top 30)) (defBody (top 30)) (defScope (top 30)) [] [] (He.ga K "tile_told") (fdOf K (He.ga K "tile_told"))
  f_shows_pattern : mg "shows_pattern" = some (.ref (He.ga K "shows_pattern"))
  F_shows_pattern : FunD K "shows_pattern" "shows_pattern" (defArgs (top 46)) (defBody (top 46)) (defScope (top 46)) [] [] (He.ga K "shows_pattern") (fdOf K (He.ga K "shows_pattern"))
  f_accepts : mg "accepts" = some (.ref (He.ga K "accepts"))
  F_accepts : FunD K "accepts" "accepts" (defArgs (top 47)) (defBody (top 47)) (defScope (top 47)) [] [] (He.ga K "accepts") (fdOf K (He.ga K "accepts"))
  f_law_judge : mg "_law_judge" = some (.ref (He.ga K "_law_judge"))
  F_law_judge : FunD K "_law_judge" "_law_judge" (defArgs (top 53)) (defBody (top 53)) (defScope (top 53)) [] [] (He.ga K "_law_judge") (fdOf K (He.ga K "_law_judge"))
  f_law_ahead : mg "_law_ahead" = some (.ref (He.ga K "_law_ahead"))
  F_law_ahead : FunD K "_law_ahead" "_law_ahead" (defArgs (top 54)) (defBody (top 54)) (defScope (top 54)) [] [] (He.ga K "_law_ahead") (fdOf K (He.ga K "_law_ahead"))
  f_law_run_free : mg "_law_run_free" = some (.ref (He.ga K "_law_run_free"))
  F_law_run_free : FunD K "_law_run_free" "_law_run_free" (defArgs (top 57)) (defBody (top 57)) (defScope (top 57)) [] [] (He.ga K "_law_run_free") (fdOf K (He.ga K "_law_run_free"))
  f_law_tile : mg "_law_tile" = some (.ref (He.ga K "_law_tile"))
  F_law_tile : FunD K "_law_tile" "_law_tile" (defArgs (top 55)) (defBody (top 55)) (defScope (top 55)) [] [] (He.ga K "_law_tile") (fdOf K (He.ga K "_law_tile"))
  f_law_is_tile : mg "_law_is_tile" = some (.ref (He.ga K "_law_is_tile"))
  F_law_is_tile : FunD K "_law_is_tile" "_law_is_tile" (defArgs (top 58)) (defBody (top 58)) (defScope (top 58)) [] [] (He.ga K "_law_is_tile") (fdOf K (He.ga K "_law_is_tile"))
  f_law_tile_read : mg "_law_tile_read" = some (.ref (He.ga K "_law_tile_read"))
  F_law_tile_read : FunD K "_law_tile_read" "_law_tile_read" (defArgs (top 59)) (defBody (top 59)) (defScope (top 59)) [] [] (He.ga K "_law_tile_read") (fdOf K (He.ga K "_law_tile_read"))
  f_law_tile_text : mg "_law_tile_text" = some (.ref (He.ga K "_law_tile_text"))
  F_law_tile_text : FunD K "_law_tile_text" "_law_tile_text" (defArgs (top 56)) (defBody (top 56)) (defScope (top 56)) [] [] (He.ga K "_law_tile_text") (fdOf K (He.ga K "_law_tile_text"))
  f_law_whole : mg "_law_whole" = some (.ref (He.ga K "_law_whole"))
  F_law_whole : FunD K "_law_whole" "_law_whole" (defArgs (top 52)) (defBody (top 52)) (defScope (top 52)) [] [] (He.ga K "_law_whole") (fdOf K (He.ga K "_law_whole"))
  f_law_right : mg "_law_right" = some (.ref (He.ga K "_law_right"))
  F_law_right : FunD K "_law_right" "_law_right" (defArgs (top 61)) (defBody (top 61)) (defScope (top 61)) [] [] (He.ga K "_law_right") (fdOf K (He.ga K "_law_right"))
  f_law : mg "law" = some (.ref (He.ga K "law"))
  F_law : FunD K "law" "law" (defArgs (top 62)) (defBody (top 62)) (defScope (top 62)) [] [] (He.ga K "law") (fdOf K (He.ga K "law"))
  ok : WdOk (wd K)
  i_bool : ∀ x u, x.fit = true → x.v (wd K) u → PySem.W.kitOne K u (.type "bool") = some (isiB x (.b "bool"))
  i_int : ∀ x u, x.fit = true → x.v (wd K) u → PySem.W.kitOne K u (.type "int") = some (isiB x (.b "int"))
  i_str : ∀ x u, x.fit = true → x.v (wd K) u → PySem.W.kitOne K u (.type "str") = some (isiB x (.b "str"))
  i_tuple : ∀ x u, x.fit = true → x.v (wd K) u → PySem.W.kitOne K u (.type "tuple") = some (isiB x (.b "tuple"))
  c_FIGURE_OF : mg "FIGURE_OF" = some (.ref (He.ga K "FIGURE_OF"))
  d_FIGURE_OF : KD (wd K) w (He.ga K "FIGURE_OF") kv_FIGURE_OF
  c_MOST_SIDE : ∃ t, mg "MOST_SIDE" = some (.int 12 t)
  c_SIZES : mg "SIZES" = some (.ref (He.ga K "SIZES"))
  d_SIZES : KD (wd K) w (He.ga K "SIZES") kv_SIZES
  c_STEPS : mg "STEPS" = some (.ref (He.ga K "STEPS"))
  d_STEPS : KD (wd K) w (He.ga K "STEPS") kv_STEPS
section
variable {P : Program} {w : World} {K : PySem.W.Frag} {mg : Str → Option Value} {base : Heap}
theorem sc_law_bag : FnScope ["_law_script", "_law_spot", "_law_cell", "_law_part"] ["_law_script", "_law_spot"] (defScope (top 49)) := ⟨rfl, rfl, rfl, by decide +kernel, rfl, by decide +kernel, by decide +kernel⟩
theorem b_law_bag (g : Gs w K mg) : Binds K (fdOf K (He.ga K "_law_bag")) ["_law_script", "_law_spot"] [] := g.F_law_bag.bindsN fun _ _ _ _ _ _ us hl => match us, hl with | [_, _], _ => rfl
theorem ok_law_bag (g : Gs w K mg) : FnOk P w K mg base CX0 1 (He.ga K "_law_bag") (fdOf K (He.ga K "_law_bag")) ["_law_script", "_law_spot"] (spM (wd K) m_law_bag) :=
  fnM g.F_law_bag sc_law_bag 4 2 rfl rfl fun cdv A outer s H E hr =>
    (xsCons (xsSet (i := 2) sc_law_bag.nd rfl (.inl rfl) (xIf (xtCmp ot_lt (oLt (room80 hr)) (xVar 1) (xCallB ct_len call_len rfl g.b_len bt_len (xaCons (xVar 0) xaNil))) (xIx rfl (xVar 0) (xVar 1) (fun _ _ => rfl)) (xOp ot_add oAdd (xOp ot_mul oMul xInt (xVar 1)) xInt)))
    (xsCons (xsFor (fun _ _ z => z.elim) rfl (xiSeq rfl (xIf (xtCmp ot_ge (oGe (room80 hr)) (xVar 1) (xCallB ct_len call_len rfl g.b_len bt_len (xaCons (xVar 0) xaNil))) (xSl rfl (xVar 0) xoNo (xoSome xInt)) (xL (xLst xaNil)))) (xgName (i := 3) sc_law_bag.nd rfl (.inl rfl)) (xsOne (xsSet (i := 2) sc_law_bag.nd rfl (.inl rfl) (xOp ot_mod op_mod (xCallTy ct_int oInt rfl g.b_int bt_int (xaCons (xOp ot_add oAdd (xOp ot_mul oMul (xVar 2) xInt) (xVar 3)) xaNil)) xInt))))
    (xsOne (xsRet (xH (xLst (xaCons (xOp ot_mod op_mod (xCallTy ct_int oInt rfl g.b_int bt_int (xaCons (xVar 2) xaNil)) xInt) (xaCons (xIf (xtW (xwOr (xtCmp ot_lt (oLt (room80 hr)) (xVar 2) xInt) (xwOr1 (xtCmp ot_ge (oGe (room80 hr)) (xVar 2) (xOp ot_pow op_pow xInt xInt))))) (xCallB ct_abs call_abs rfl g.b_abs bt_abs (xaCons (xVar 2) xaNil)) xInt) (xaCons xInt xaNil)))))))))
theorem sc_law_take : FnScope ["_law_bag_here", "_law_top", "_law_seed", "_law_high", "_law_digit"] ["_law_bag_here", "_law_top"] (defScope (top 50)) := ⟨rfl, rfl, rfl, by decide +kernel, rfl, by decide +kernel, by decide +kernel⟩
theorem b_law_take (g : Gs w K mg) : Binds K (fdOf K (He.ga K "_law_take")) ["_law_bag_here", "_law_top"] [] := g.F_law_take.bindsN fun _ _ _ _ _ _ us hl => match us, hl with | [_, _], _ => rfl
theorem ok_law_take (g : Gs w K mg) : FnOk P w K mg base CX0 1 (He.ga K "_law_take") (fdOf K (He.ga K "_law_take")) ["_law_bag_here", "_law_top"] (spM (wd K) m_law_take) :=
  fnM g.F_law_take sc_law_take 5 2 rfl rfl fun cdv A outer s H E hr =>
    (xsCons (xsAsg (xOp ot_add oAdd (xIx rfl (xVar 0) xInt (fun _ _ => rfl)) xInt) (xgSub st_setL (xVar 0) xInt set_list))
    (xsCons (xsSet (i := 2) sc_law_take.nd rfl (.inl rfl) (xCallTy ct_int oInt rfl g.b_int bt_int (xaCons (xIx rfl (xVar 0) xInt (fun _ _ => rfl)) xaNil)))
    (xsCons (xsSet (i := 3) sc_law_take.nd rfl (.inl rfl) (xOp ot_fdv op_fdiv (xVar 2) xInt))
    (xsCons (xsAsg (xOp ot_mod op_mod (xCallTy ct_int oInt rfl g.b_int bt_int (xaCons (xOp ot_add oAdd (xOp ot_add oAdd (xOp ot_add oAdd (xOp ot_mul oMul (xVar 2) xInt) (xOp ot_mul oMul (xVar 3) (xVar 3))) (xOp ot_mul oMul xInt (xIx rfl (xVar 0) xInt (fun _ _ => rfl)))) xInt) xaNil)) xInt) (xgSub st_setL (xVar 0) xInt set_list))
    (xsCons (xsIf (xtCmp ot_gt (oGt (room80 hr)) (xIx rfl (xVar 0) xInt (fun _ _ => rfl)) xInt) (xsCons (xsAsg (xCallB ct_divmod call_divmodW rfl g.b_divmod bt_divmod (xaCons (xIx rfl (xVar 0) xInt (fun _ _ => rfl)) (xaCons (xVar 1) xaNil))) (xgTup (n := 2) rfl rfl (xgsCons (xgSub st_setL (xVar 0) xInt set_list) (xgsCons (xgName (i := 4) sc_law_take.nd rfl (.inl rfl)) xgsNil))))
    (xsOne (xsRet (xVar 4)))) xsNil)
    (xsOne (xsRet (xOp ot_mod op_mod (xCallTy ct_int oInt rfl g.b_int bt_int (xaCons (xOp ot_fdv op_fdiv (xIx rfl (xVar 0) xInt (fun _ _ => rfl)) xInt) xaNil)) (xVar 1)))))))))
theorem sc_law_of : FnScope ["_law_bag_here", "_law_some_here"] ["_law_bag_here", "_law_some_here"] (defScope (top 51)) := ⟨rfl, rfl, rfl, by decide +kernel, rfl, by decide +kernel, by decide +kernel⟩
theorem b_law_of (g : Gs w K mg) : Binds K (fdOf K (He.ga K "_law_of")) ["_law_bag_here", "_law_some_here"] [] := g.F_law_of.bindsN fun _ _ _ _ _ _ us hl => match us, hl with | [_, _], _ => rfl
theorem ok_law_of (g : Gs w K mg) : FnOk P w K mg base CX0 2 (He.ga K "_law_of") (fdOf K (He.ga K "_law_of")) ["_law_bag_here", "_law_some_here"] (spM (wd K) m_law_of) :=
  fnM g.F_law_of sc_law_of 2 2 rfl rfl fun cdv A outer s H E hr =>
    (xsOne (xsRet (xIx rfl (xVar 1) (xCall (ok_law_take g) (hr.mono (by decide)) rfl g.f_law_take g.F_law_take.kp (b_law_take g) (xaCons (xVar 0) (xaCons (xCallB ct_len call_len rfl g.b_len bt_len (xaCons (xVar 1) xaNil)) xaNil))) (fun _ _ => rfl))))
theorem sc_law_bent_tile : FnScope ["_law_bag_here", "_law_text_here", "_law_way", "_law_k", "_law_fresh", "_law_some"] ["_law_bag_here", "_law_text_here"] (defScope (top 60)) := ⟨rfl, rfl, rfl, by decide +kernel, rfl, by decide +kernel, by decide +kernel⟩
theorem b_law_bent_tile (g : Gs w K mg) : Binds K (fdOf K (He.ga K "_law_bent_tile")) ["_law_bag_here", "_law_text_here"] [] := g.F_law_bent_tile.bindsN fun _ _ _ _ _ _ us hl => match us, hl with | [_, _], _ => rfl
theorem ok_law_bent_tile (g : Gs w K mg) : FnOk P w K mg base CX0 3 (He.ga K "_law_bent_tile") (fdOf K (He.ga K "_law_bent_tile")) ["_law_bag_here", "_law_text_here"] (spM (wd K) m_law_bent_tile) :=
  fnM g.F_law_bent_tile sc_law_bent_tile 6 2 rfl rfl fun cdv A outer s H E hr =>
    (xsCons (xsPar (i := 2) (j := 3) rfl sc_law_bent_tile.nd rfl rfl (by decide) rfl rfl (xaCons (xCall (ok_law_take g) (hr.mono (by decide)) rfl g.f_law_take g.F_law_take.kp (b_law_take g) (xaCons (xVar 0) (xaCons xInt xaNil))) (xaCons (xCall (ok_law_take g) (hr.mono (by decide)) rfl g.f_law_take g.F_law_take.kp (b_law_take g) (xaCons (xVar 0) (xaCons (xOp ot_add oAdd (xCallB ct_len call_len rfl g.b_len bt_len (xaCons (xVar 1) xaNil)) xInt) xaNil))) xaNil)) rfl)
    (xsCons (xsIf (xtCmp ot_lt (oLt (room80 hr)) (xVar 2) xInt) (xsCons (xsSet (i := 4) sc_law_bent_tile.nd rfl (.inl rfl) (xCall (ok_law_of g) (hr.mono (by decide)) rfl g.f_law_of g.F_law_of.kp (b_law_of g) (xaCons (xVar 0) (xaCons (xL (xLst (xaCons xStr (xaCons xStr (xaCons xStr (xaCons xStr (xaCons xStr (xaCons xStr (xaCons xStr (xaCons xStr (xaCons xStr (xaCons xStr (xaCons xStr xaNil))))))))))))) xaNil))))
    (xsOne (xsRet (xOp ot_add oAdd (xOp ot_add oAdd (xSl rfl (xVar 1) xoNo (xoSome (xVar 3))) (xVar 4)) (xSl rfl (xVar 1) (xoSome (xOp ot_add oAdd (xVar 3) (xCallTy ct_int oInt rfl g.b_int bt_int (xaCons (xCmp ot_lt (oLt (room80 hr)) (xVar 2) xInt) xaNil)))) xoNo))))) xsNil)
    (xsCons (xsIf (xtCmp ot_eq (op_eqP (room80 hr)) (xVar 2) xInt) (xsCons (xsSet (i := 5) sc_law_bent_tile.nd rfl (.inl rfl) (xL (xLst (xaCons (xOp ot_mulS op_mulS xStr xInt) (xaCons (xOp ot_mulS op_mulS xStr xInt) (xaCons (xMt mt_join' rfl F.plainAttrs_str F.slot_str_join F.type_str_join mt_join xStr (xaCons (xL (xMulF (xL (xLst (xaCons xStr xaNil))) xInt)) xaNil)) (xaCons (xMt mt_join' rfl F.plainAttrs_str F.slot_str_join F.type_str_join mt_join xStr (xaCons (xL (xMulF (xL (xLst (xaCons xStr xaNil))) xInt)) xaNil)) (xaCons xStr (xaCons xStr xaNil)))))))))
    (xsCons (xsSet (i := 5) sc_law_bent_tile.nd rfl (.inl rfl) (xOp ot_add oAdd (xVar 5) (xL (xLst (xaCons xStr (xaCons xStr (xaCons xStr (xaCons xStr xaNil))))))))
    (xsOne (xsRet (xCall (ok_law_of g) (hr.mono (by decide)) rfl g.f_law_of g.F_law_of.kp (b_law_of g) (xaCons (xVar 0) (xaCons (xOp ot_add oAdd (xVar 5) (xL (xLst (xaCons xStr (xaCons xStr (xaCons xStr (xaCons xNon (xaCons xInt (xaCons (xL (xLst (xaCons xStr xaNil))) (xaCons xStr (xaCons xStr xaNil))))))))))) xaNil))))))) xsNil)
    (xsOne (xsRet (xVar 1))))))
theorem sc_sign_at : FnScope ["rows", "across", "up", "row"] ["rows", "across", "up"] (defScope (top 28)) := ⟨rfl, rfl, rfl, by decide +kernel, rfl, by decide +kernel, by decide +kernel⟩
theorem b_sign_at (g : Gs w K mg) : Binds K (fdOf K (He.ga K "sign_at")) ["rows", "across", "up"] [] := g.F_sign_at.bindsN fun _ _ _ _ _ _ us hl => match us, hl with | [_, _, _], _ => rfl
theorem ok_sign_at (g : Gs w K mg) : FnOk P w K mg base CX0 1 (He.ga K "sign_at") (fdOf K (He.ga K "sign_at")) ["rows", "across", "up"] (spM (wd K) m_sign_at) :=
  fnM g.F_sign_at sc_sign_at 4 3 rfl rfl fun cdv A outer s H E hr =>
    (xsCons (xsSet (i := 3) sc_sign_at.nd rfl (.inl rfl) (xIx rfl (xVar 0) (xOp ot_mod op_mod (xVar 2) (xCallB ct_len call_len rfl g.b_len bt_len (xaCons (xVar 0) xaNil))) (fun _ _ => rfl)))
    (xsOne (xsRet (xIx rfl (xVar 3) (xOp ot_mod op_mod (xVar 1) (xCallB ct_len call_len rfl g.b_len bt_len (xaCons (xVar 3) xaNil))) (fun _ _ => rfl)))))
theorem sc_free_from : FnScope ["rows", "way", "across", "up", "east", "north", "done"] ["rows", "way", "across", "up"] (defScope (top 31)) := ⟨rfl, rfl, rfl, by decide +kernel, rfl, by decide +kernel, by decide +kernel⟩
theorem b_free_from (g : Gs w K mg) : Binds K (fdOf K (He.ga K "free_from")) ["rows", "way", "across", "up"] [] := g.F_free_from.bindsN fun _ _ _ _ _ _ us hl => match us, hl with | [_, _, _, _], _ => rfl
theorem ok_free_from (g : Gs w K mg) : FnOk P w K mg base CX0 2 (He.ga K "free_from") (fdOf K (He.ga K "free_from")) ["rows", "way", "across", "up"] (spM (wd K) m_free_from) :=
  fnM g.F_free_from sc_free_from 7 4 rfl rfl fun cdv A outer s H E hr =>
    (xsCons (xsAsg (xIxK rfl g.d_STEPS rfl g.c_STEPS (xIxK rfl g.d_FIGURE_OF rfl g.c_FIGURE_OF (xVar 1) (fun _ _ => rfl)) (fun _ _ => rfl)) (xgTup (n := 2) rfl rfl (xgsCons (xgName (i := 4) sc_free_from.nd rfl (.inl rfl)) (xgsCons (xgName (i := 5) sc_free_from.nd rfl (.inl rfl)) xgsNil))))
    (xsCons (xsFor (fun _ _ z => z.elim) rfl (xiRange1 rfl g.b_range (xaCons (xOp ot_mul oMul (xCallB ct_len call_len rfl g.b_len bt_len (xaCons (xVar 0) xaNil)) (xCallB ct_len call_len rfl g.b_len bt_len (xaCons (xIx rfl (xVar 0) xInt (fun _ _ => rfl)) xaNil))) xaNil)) (xgName (i := 6) sc_free_from.nd rfl (.inl rfl)) (xsOne (xsIf (xtCmp ot_eq (op_eqP (room80 hr)) (xCall (ok_sign_at g) (hr.mono (by decide)) rfl g.f_sign_at g.F_sign_at.kp (b_sign_at g) (xaCons (xVar 0) (xaCons (xOp ot_add oAdd (xVar 2) (xOp ot_mul oMul (xVar 6) (xVar 4))) (xaCons (xOp ot_add oAdd (xVar 3) (xOp ot_mul oMul (xVar 6) (xVar 5))) xaNil)))) (xIxK rfl g.d_FIGURE_OF rfl g.c_FIGURE_OF (xVar 1) (fun _ _ => rfl))) (xsOne (xsRet (xOp ot_add oAdd (xVar 6) xInt))) xsNil)))
    (xsOne (xsRet xNon))))
theorem sc_has_free : FnScope ["rows", "way", "number", "up", "across", "found"] ["rows", "way", "number"] (defScope (top 32)) := ⟨rfl, rfl, rfl, by decide +kernel, rfl, by decide +kernel, by decide +kernel⟩
theorem b_has_free (g : Gs w K mg) : Binds K (fdOf K (He.ga K "has_free")) ["rows", "way", "number"] [] := g.F_has_free.bindsN fun _ _ _ _ _ _ us hl => match us, hl with | [_, _, _], _ => rfl
theorem ok_has_free (g : Gs w K mg) : FnOk P w K mg base CX0 3 (He.ga K "has_free") (fdOf K (He.ga K "has_free")) ["rows", "way", "number"] (spM (wd K) m_has_free) :=
  fnM g.F_has_free sc_has_free 6 3 rfl rfl fun cdv A outer s H E hr =>
    (xsCons (xsFor (fun _ _ z => z.elim) rfl (xiRange1 rfl g.b_range (xaCons (xCallB ct_len call_len rfl g.b_len bt_len (xaCons (xVar 0) xaNil)) xaNil)) (xgName (i := 3) sc_has_free.nd rfl (.inl rfl)) (xsOne (xsFor (fun _ _ z => z.elim) rfl (xiRange1 rfl g.b_range (xaCons (xCallB ct_len call_len rfl g.b_len bt_len (xaCons (xIx rfl (xVar 0) xInt (fun _ _ => rfl)) xaNil)) xaNil)) (xgName (i := 4) sc_has_free.nd rfl (.inl rfl)) (xsCons (xsSet (i := 5) sc_has_free.nd rfl (.inl rfl) (xCall (ok_free_from g) (hr.mono (by decide)) rfl g.f_free_from g.F_free_from.kp (b_free_from g) (xaCons (xVar 0) (xaCons (xVar 1) (xaCons (xVar 4) (xaCons (xVar 3) xaNil))))))
    (xsOne (xsIf (xtW (xwOr (xtCmp ot_is op_isN (xVar 5) xNon) (xwOr1 (xtCmp ot_ge (oGe (room80 hr)) (xVar 5) (xVar 2))))) (xsOne (xsRet xBl)) xsNil))))))
    (xsOne (xsRet xBl)))
theorem sc_is_whole : FnScope ["value"] ["value"] (defScope (top 6)) := ⟨rfl, rfl, rfl, by decide +kernel, rfl, by decide +kernel, by decide +kernel⟩
theorem b_is_whole (g : Gs w K mg) : Binds K (fdOf K (He.ga K "is_whole")) ["value"] [] := g.F_is_whole.bindsN fun _ _ _ _ _ _ us hl => match us, hl with | [_], _ => rfl
theorem ok_is_whole (g : Gs w K mg) : FnOk P w K mg base CX0 1 (He.ga K "is_whole") (fdOf K (He.ga K "is_whole")) ["value"] (spM (wd K) m_is_whole) :=
  fnM g.F_is_whole sc_is_whole 1 1 rfl rfl fun cdv A outer s H E hr =>
    (xsOne (xsRet (xAnd (xIsi (y := .b "int") rfl g.ok rfl (.ty _) g.i_int (xVar 0) (pe_bltn rfl g.b_int bt_int rfl) rfl g.b_isinstance) (xOne (xNot (xIsi (y := .b "bool") rfl g.ok rfl (.ty _) g.i_bool (xVar 0) (pe_bltn rfl g.b_bool bt_bool rfl) rfl g.b_isinstance))))))
theorem sc_is_number : FnScope ["value"] ["value"] (defScope (top 36)) := ⟨rfl, rfl, rfl, by decide +kernel, rfl, by decide +kernel, by decide +kernel⟩
theorem b_is_number (g : Gs w K mg) : Binds K (fdOf K (He.ga K "is_number")) ["value"] [] := g.F_is_number.bindsN fun _ _ _ _ _ _ us hl => match us, hl with | [_], _ => rfl
theorem ok_is_number (g : Gs w K mg) : FnOk P w K mg base CX0 2 (He.ga K "is_number") (fdOf K (He.ga K "is_number")) ["value"] (spM (wd K) m_is_number) :=
  fnM g.F_is_number sc_is_number 1 1 rfl rfl fun cdv A outer s H E hr =>
    (xsOne (xsRet (xAnd (xCall (ok_is_whole g) (hr.mono (by decide)) rfl g.f_is_whole g.F_is_whole.kp (b_is_whole g) (xaCons (xVar 0) xaNil)) (xOne (xCmp ot_gt (oGt (room80 hr)) (xVar 0) xInt)))))
theorem sc_is_mutual_at : FnScope ["rows", "across", "up", "sign", "east", "north"] ["rows", "across", "up"] (defScope (top 29)) := ⟨rfl, rfl, rfl, by decide +kernel, rfl, by decide +kernel, by decide +kernel⟩
theorem b_is_mutual_at (g : Gs w K mg) : Binds K (fdOf K (He.ga K "is_mutual_at")) ["rows", "across", "up"] [] := g.F_is_mutual_at.bindsN fun _ _ _ _ _ _ us hl => match us, hl with | [_, _, _], _ => rfl
theorem ok_is_mutual_at (g : Gs w K mg) : FnOk P w K mg base CX0 2 (He.ga K "is_mutual_at") (fdOf K (He.ga K "is_mutual_at")) ["rows", "across", "up"] (spM (wd K) m_is_mutual_at) :=
  fnM g.F_is_mutual_at sc_is_mutual_at 6 3 rfl rfl fun cdv A outer s H E hr =>
    (xsCons (xsSet (i := 3) sc_is_mutual_at.nd rfl (.inl rfl) (xCall (ok_sign_at g) (hr.mono (by decide)) rfl g.f_sign_at g.F_sign_at.kp (b_sign_at g) (xaCons (xVar 0) (xaCons (xVar 1) (xaCons (xVar 2) xaNil)))))
    (xsCons (xsIf (xtCmp ot_eq (op_eqP (room80 hr)) (xVar 3) xStr) (xsOne (xsRet xBl)) xsNil)
    (xsCons (xsAsg (xIxK rfl g.d_STEPS rfl g.c_STEPS (xVar 3) (fun _ _ => rfl)) (xgTup (n := 2) rfl rfl (xgsCons (xgName (i := 4) sc_is_mutual_at.nd rfl (.inl rfl)) (xgsCons (xgName (i := 5) sc_is_mutual_at.nd rfl (.inl rfl)) xgsNil))))
    (xsOne (xsRet (xCmp ot_eq (op_eqP (room80 hr)) (xCallTy ct_int oInt rfl g.b_int bt_int (xaCons (xCall (ok_sign_at g) (hr.mono (by decide)) rfl g.f_sign_at g.F_sign_at.kp (b_sign_at g) (xaCons (xVar 0) (xaCons (xOp ot_add oAdd (xVar 1) (xVar 4)) (xaCons (xOp ot_add oAdd (xVar 2) (xVar 5)) xaNil)))) xaNil)) (xOp ot_sub op_sub xInt (xCallTy ct_int oInt rfl g.b_int bt_int (xaCons (xVar 3) xaNil)))))))))
theorem sc_rows_told : FnScope ["text", "rows", "row", "sign"] ["text"] (defScope (top 27)) := ⟨rfl, rfl, rfl, by decide +kernel, rfl, by decide +kernel, by decide +kernel⟩
theorem b_rows_told (g : Gs w K mg) : Binds K (fdOf K (He.ga K "rows_told")) ["text"] [] := g.F_rows_told.bindsN fun _ _ _ _ _ _ us hl => match us, hl with | [_], _ => rfl
theorem ok_rows_told (g : Gs w K mg) : FnOk P w K mg base CX0 1 (He.ga K "rows_told") (fdOf K (He.ga K "rows_told")) ["text"] (spM (wd K) m_rows_told) :=
  fnM g.F_rows_told sc_rows_told 4 1 rfl rfl fun cdv A outer s H E hr =>
    (xsCons (xsSet (i := 1) sc_rows_told.nd rfl (.inr rfl) (xIf (xtVal (xIsi (y := .b "str") rfl g.ok rfl (.ty _) g.i_str (xVar 0) (pe_bltn rfl g.b_str bt_str rfl) rfl g.b_isinstance)) (xRev rfl (xMt mt_split' rfl F.plainAttrs_str F.slot_str_split F.type_str_split mt_split (xVar 0) (xaCons xStr xaNil))) (xL (xLst xaNil))))
    (xsCons (xsIf (xtW (xwOr (xtNot (xtChain ot_lt ot_le (oLt (room80 hr)) (oLe (room80 hr)) xInt (xCallB ct_len call_len rfl g.b_len bt_len (xaCons (xVar 1) xaNil)) (xGInt rfl g.c_MOST_SIDE))) (xwOr1 (xtNot (xtChain ot_lt ot_le (oLt (room80 hr)) (oLe (room80 hr)) xInt (xCallB ct_len call_len rfl g.b_len bt_len (xaCons (xIx rfl (xVar 1) xInt (fun _ _ => rfl)) xaNil)) (xGInt rfl g.c_MOST_SIDE)))))) (xsOne (xsRet xNon)) xsNil)
    (xsCons (xsIf (xtNot (xtVal (xCallB ct_all (cr_all rfl) rfl g.b_all bt_all (xaCons (xL (xLc (own := [("row", 2)]) rfl sc_rows_told.nd (xiSeq rfl (xVar 1)) (blk_of rfl rfl) (fun _ _ _ _ _ => (wgName (i := 2) (by decide) sc_rows_told.nd rfl (.inl rfl))) (fun _ _ _ _ _ => xtsNil) (fun _ _ _ _ _ => (xAnd (xCmp ot_eq (op_eqP (room80 hr)) (xCallB ct_len call_len rfl g.b_len bt_len (xaCons (xVar 2) xaNil)) (xCallB ct_len call_len rfl g.b_len bt_len (xaCons (xIx rfl (xVar 1) xInt (fun _ _ => rfl)) xaNil))) (xOne (xCallB ct_all (cr_all rfl) rfl g.b_all bt_all (xaCons (xL (xLc (own := [("sign", 3)]) rfl sc_rows_told.nd (xiSeq rfl (xVar 2)) (blk_of rfl rfl) (fun _ _ _ _ _ => (wgName (i := 3) (by decide) sc_rows_told.nd rfl (.inl rfl))) (fun _ _ _ _ _ => xtsNil) (fun _ _ _ _ _ => (xOr (xCmp ot_eq (op_eqP (room80 hr)) (xVar 3) xStr) (xOne (xInK rfl g.d_STEPS rfl g.c_STEPS (xVar 3))))))) xaNil))))))) xaNil)))) (xsOne (xsRet xNon)) xsNil)
    (xsOne (xsRet (xVar 1))))))
theorem sc_tile_told : FnScope ["text", "rows", "mutual", "up", "across"] ["text"] (defScope (top 30)) := ⟨rfl, rfl, rfl, by decide +kernel, rfl, by decide +kernel, by decide +kernel⟩
theorem b_tile_told (g : Gs w K mg) : Binds K (fdOf K (He.ga K "tile_told")) ["text"] [] := g.F_tile_told.bindsN fun _ _ _ _ _ _ us hl => match us, hl with | [_], _ => rfl
theorem ok_tile_told (g : Gs w K mg) : FnOk P w K mg base CX0 3 (He.ga K "tile_told") (fdOf K (He.ga K "tile_told")) ["text"] (spM (wd K) m_tile_told) :=
  fnM g.F_tile_told sc_tile_told 5 1 rfl rfl fun cdv A outer s H E hr =>
    (xsCons (xsSet (i := 1) sc_tile_told.nd rfl (.inr rfl) (xCall (ok_rows_told g) (hr.mono (by decide)) rfl g.f_rows_told g.F_rows_told.kp (b_rows_told g) (xaCons (xVar 0) xaNil)))
    (xsCons (xsIf (xtCmp ot_is op_isN (xVar 1) xNon) (xsOne (xsRet xNon)) xsNil)
    (xsCons (xsSetLcL (i := 2) (own := [("up", 3)]) rfl sc_tile_told.nd rfl rfl rfl (xiRange1 rfl g.b_range (xaCons (xCallB ct_len call_len rfl g.b_len bt_len (xaCons (xVar 1) xaNil)) xaNil)) (blk_of rfl rfl) (fun _ _ _ _ _ => (wgName (i := 3) (by decide) sc_tile_told.nd rfl (.inr rfl))) (fun _ _ _ _ _ => xtsNil) (fun _ _ _ _ _ => (xCallB ct_all (cr_all rfl) rfl g.b_all bt_all (xaCons (xL (xLc (own := [("across", 4)]) rfl sc_tile_told.nd (xiRange1 rfl g.b_range (xaCons (xCallB ct_len call_len rfl g.b_len bt_len (xaCons (xIx rfl (xVar 1) xInt (fun _ _ => rfl)) xaNil)) xaNil)) (blk_of rfl rfl) (fun _ _ _ _ _ => (wgName (i := 4) (by decide) sc_tile_told.nd rfl (.inl rfl))) (fun _ _ _ _ _ => xtsNil) (fun _ _ _ _ _ => (xCall (ok_is_mutual_at g) (hr.mono (by decide)) rfl g.f_is_mutual_at g.F_is_mutual_at.kp (b_is_mutual_at g) (xaCons (xVar 1) (xaCons (xVar 4) (xaCons (xVar 3) xaNil))))))) xaNil))))
    (xsOne (xsRet (xIf (xtVal (xCallB ct_all (cr_all rfl) rfl g.b_all bt_all (xaCons (xVar 2) xaNil))) (xVar 1) xNon))))))
theorem sc_shows_pattern : FnScope ["claim", "certificate", "rows", "way"] ["claim", "certificate"] (defScope (top 46)) := ⟨rfl, rfl, rfl, by decide +kernel, rfl, by decide +kernel, by decide +kernel⟩
theorem b_shows_pattern (g : Gs w K mg) : Binds K (fdOf K (He.ga K "shows_pattern")) ["claim", "certificate"] [] := g.F_shows_pattern.bindsN fun _ _ _ _ _ _ us hl => match us, hl with | [_, _], _ => rfl
theorem ok_shows_pattern (g : Gs w K mg) : FnOk P w K mg base CX0 4 (He.ga K "shows_pattern") (fdOf K (He.ga K "shows_pattern")) ["claim", "certificate"] (spM (wd K) m_shows_pattern) :=
  fnM g.F_shows_pattern sc_shows_pattern 4 2 rfl rfl fun cdv A outer s H E hr =>
    (xsCons (xsSet (i := 2) sc_shows_pattern.nd rfl (.inr rfl) (xCall (ok_tile_told g) (hr.mono (by decide)) rfl g.f_tile_told g.F_tile_told.kp (b_tile_told g) (xaCons (xIx rfl (xVar 0) xInt (fun _ _ => rfl)) xaNil)))
    (xsCons (xsIf (xtW (xwOr (xtCmp ot_is op_isN (xVar 2) xNon) (xwOr (xtCmp ot_isn op_notN (xVar 1) xNon) (xwOr1 (xtNot (xtVal (xCall (ok_is_number g) (hr.mono (by decide)) rfl g.f_is_number g.F_is_number.kp (b_is_number g) (xaCons (xIx rfl (xVar 0) (xNeg xInt) (fun _ _ => rfl)) xaNil)))))))) (xsOne (xsRet xBl)) xsNil)
    (xsCons (xsIf (xtCmp ot_eq (op_eqP (room80 hr)) (xIx rfl (xVar 0) xInt (fun _ _ => rfl)) xStr) (xsOne (xsRet (xNot (xCallB ct_any (cr_any rfl) rfl g.b_any bt_any (xaCons (xL (xLc (own := [("way", 3)]) rfl sc_shows_pattern.nd (xiKeysK rfl g.d_FIGURE_OF rfl g.c_FIGURE_OF) (blk_of rfl rfl) (fun _ _ _ _ _ => (wgName (i := 3) (by decide) sc_shows_pattern.nd rfl (.inl rfl))) (fun _ _ _ _ _ => xtsNil) (fun _ _ _ _ _ => (xCall (ok_has_free g) (hr.mono (by decide)) rfl g.f_has_free g.F_has_free.kp (b_has_free g) (xaCons (xVar 2) (xaCons (xVar 3) (xaCons (xIx rfl (xVar 0) xInt (fun _ _ => rfl)) xaNil))))))) xaNil))))) xsNil)
    (xsOne (xsRet (xAnd (xIsi (y := .b "str") rfl g.ok rfl (.ty _) g.i_str (xIx rfl (xVar 0) xInt (fun _ _ => rfl)) (pe_bltn rfl g.b_str bt_str rfl) rfl g.b_isinstance) (xAnd (xInK rfl g.d_FIGURE_OF rfl g.c_FIGURE_OF (xIx rfl (xVar 0) xInt (fun _ _ => rfl))) (xOne (xCall (ok_has_free g) (hr.mono (by decide)) rfl g.f_has_free g.F_has_free.kp (b_has_free g) (xaCons (xVar 2) (xaCons (xIx rfl (xVar 0) xInt (fun _ _ => rfl)) (xaCons (xIx rfl (xVar 0) xInt (fun _ _ => rfl)) xaNil))))))))))))
theorem sc_accepts : FnScope ["claim", "certificate"] ["claim", "certificate"] (defScope (top 47)) := ⟨rfl, rfl, rfl, by decide +kernel, rfl, by decide +kernel, by decide +kernel⟩
theorem b_accepts (g : Gs w K mg) : Binds K (fdOf K (He.ga K "accepts")) ["claim", "certificate"] [] := g.F_accepts.bindsN fun _ _ _ _ _ _ us hl => match us, hl with | [_, _], _ => rfl
theorem kb_accepts_certificate_claim (g : Gs w K mg) : KwB K (fdOf K (He.ga K "accepts")) ["claim", "certificate"] ["certificate", "claim"] 0 [1, 0] := kwB g.F_accepts fun _ _ _ _ _ _ us ws h1 h2 => match us, ws, h1, h2 with | [], [_, _], _, _ => rfl
theorem ok_accepts (g : Gs w K mg) : FnOk P w K mg base CX0 5 (He.ga K "accepts") (fdOf K (He.ga K "accepts")) ["claim", "certificate"] (spM (wd K) m_accepts) :=
  fnM g.F_accepts sc_accepts 2 2 rfl rfl fun cdv A outer s H E hr =>
    (xsCons (xsIf (xtW (xwOr (xtNot (xtVal (xIsi (y := .b "tuple") rfl g.ok rfl (.ty _) g.i_tuple (xVar 0) (pe_bltn rfl g.b_tuple bt_tuple rfl) rfl g.b_isinstance))) (xwOr (xtCmp ot_eq (op_eqP (room80 hr)) (xVar 0) (xTup xaNil)) (xwOr1 (xtNot (xtVal (xIsi (y := .b "str") rfl g.ok rfl (.ty _) g.i_str (xIx rfl (xVar 0) xInt (fun _ _ => rfl)) (pe_bltn rfl g.b_str bt_str rfl) rfl g.b_isinstance))))))) (xsOne (xsRet xBl)) xsNil)
    (xsCons (xsIf (xtCmp ot_ne (op_neP (room80 hr)) (xGetK rfl g.d_SIZES rfl g.c_SIZES (xIx rfl (xVar 0) xInt (fun _ _ => rfl))) (xCallB ct_len call_len rfl g.b_len bt_len (xaCons (xVar 0) xaNil))) (xsOne (xsRet xBl)) xsNil)
    (xsCons (xsIf (xtCmp ot_inT (oIn (room80 hr)) (xIx rfl (xVar 0) xInt (fun _ _ => rfl)) (xTup (xaCons xStr (xaCons xStr xaNil)))) (xsOne (xsRet (xCall (ok_shows_pattern g) (hr.mono (by decide)) rfl g.f_shows_pattern g.F_shows_pattern.kp (b_shows_pattern g) (xaCons (xVar 0) (xaCons (xVar 1) xaNil))))) xsNil)
    (xsOne xsBad))))
theorem sc_law_judge : FnScope ["_law_claim_here", "_law_paper_here", "_law_due", "_law_told_here"] ["_law_claim_here", "_law_paper_here", "_law_due"] (defScope (top 53)) := ⟨rfl, rfl, rfl, by decide +kernel, rfl, by decide +kernel, by decide +kernel⟩
theorem b_law_judge (g : Gs w K mg) : Binds K (fdOf K (He.ga K "_law_judge")) ["_law_claim_here", "_law_paper_here", "_law_due"] [] := g.F_law_judge.bindsN fun _ _ _ _ _ _ us hl => match us, hl with | [_, _, _], _ => rfl
theorem ok_law_judge (g : Gs w K mg) : FnQ P w K mg base (wd K) 6 (He.ga K "_law_judge") (fdOf K (He.ga K "_law_judge")) ["_law_claim_here", "_law_paper_here", "_law_due"] m_law_judge :=
  fnQ g.F_law_judge sc_law_judge 4 3 rfl rfl fun cdv A outer s H E hq hr =>
    (xsCons (xsSet (i := 3) sc_law_judge.nd rfl (.inl rfl) (xL (xLst (xaCons (xCall (ok_accepts g) (hr.mono (by decide)) rfl g.f_accepts g.F_accepts.kp (b_accepts g) (xaCons (xVar 0) (xaCons (xVar 1) xaNil))) (xaCons (xCallKw (ok_accepts g) (hr.mono (by decide)) rfl g.f_accepts g.F_accepts.kp (kb_accepts_certificate_claim g) (xkCons (xVar 1) (xkCons (xVar 0) xkNil)) (hn := tma_len (len_cons (len_cons len_nil)))) xaNil)))))
    (xsOne (xsRet (xCmp ot_eq (op_eqP (room80 hr)) (xCallB ct_repr (cr_repr hq (room80 hr)) rfl g.b_repr bt_repr (xaCons (xVar 3) xaNil)) (xCallB ct_repr (cr_repr hq (room80 hr)) rfl g.b_repr bt_repr (xaCons (xL (xLst (xaCons (xVar 2) (xaCons (xVar 2) xaNil)))) xaNil))))))
theorem sc_law_ahead : FnScope ["_law_figure_here"] ["_law_figure_here"] (defScope (top 54)) := ⟨rfl, rfl, rfl, by decide +kernel, rfl, by decide +kernel, by decide +kernel⟩
theorem b_law_ahead (g : Gs w K mg) : Binds K (fdOf K (He.ga K "_law_ahead")) ["_law_figure_here"] [] := g.F_law_ahead.bindsN fun _ _ _ _ _ _ us hl => match us, hl with | [_], _ => rfl
theorem ok_law_ahead (g : Gs w K mg) : FnOk P w K mg base CX0 1 (He.ga K "_law_ahead") (fdOf K (He.ga K "_law_ahead")) ["_law_figure_here"] (spM (wd K) m_law_ahead) :=
  fnCut (fnM g.F_law_ahead sc_law_ahead 1 1 rfl rfl fun cdv A outer s H E hr =>
    (xsOne (xsRet (xDGet (room1 hr) (xDisp (xpCons xStr (xTup (xaCons xInt (xaCons xInt xaNil))) (xpCons xStr (xTup (xaCons (xNeg xInt) (xaCons xInt xaNil))) (xpCons xStr (xTup (xaCons xInt (xaCons xInt xaNil))) (xpCons xStr (xTup (xaCons xInt (xaCons (xNeg xInt) xaNil))) (xpCons xStr (xTup (xaCons xInt (xaCons xInt xaNil))) (xpCons xStr (xTup (xaCons (xNeg xInt) (xaCons (xNeg xInt) xaNil))) (xpCons xStr (xTup (xaCons (xNeg xInt) (xaCons xInt xaNil))) (xpCons xStr (xTup (xaCons xInt (xaCons (xNeg xInt) xaNil))) xpNil))))))))) (xVar 0)))))
theorem sc_law_run_free : FnScope ["_law_tile_here", "_law_sign", "_law_size", "_law_wide", "_law_high", "_law_step", "_law_y", "_law_x", "_law_seen", "_law_k", "_law_row_here"] ["_law_tile_here", "_law_sign", "_law_size"] (defScope (top 57)) := ⟨rfl, rfl, rfl, by decide +kernel, rfl, by decide +kernel, by decide +kernel⟩
theorem b_law_run_free (g : Gs w K mg) : Binds K (fdOf K (He.ga K "_law_run_free")) ["_law_tile_here", "_law_sign", "_law_size"] [] := g.F_law_run_free.bindsN fun _ _ _ _ _ _ us hl => match us, hl with | [_, _, _], _ => rfl
theorem ok_law_run_free (g : Gs w K mg) : FnOk P w K mg base CX0 2 (He.ga K "_law_run_free") (fdOf K (He.ga K "_law_run_free")) ["_law_tile_here", "_law_sign", "_law_size"] (spM (wd K) m_law_run_free) :=
  fnCut (fnM g.F_law_run_free sc_law_run_free 11 3 rfl rfl fun cdv A outer s H E hr =>
    (xsCons (xsPar3 (i := 3) (j := 4) (l := 5) rfl sc_law_run_free.nd rfl rfl rfl (by decide) (by decide) (by decide) rfl rfl rfl (xaCons (xCallB ct_len call_len rfl g.b_len bt_len (xaCons (xIx rfl (xVar 0) xInt (fun _ _ => rfl)) xaNil)) (xaCons (xCallB ct_len call_len rfl g.b_len bt_len (xaCons (xVar 0) xaNil)) (xaCons (xCall (ok_law_ahead g) (hr.mono (by decide)) rfl g.f_law_ahead g.F_law_ahead.kp (b_law_ahead g) (xaCons (xVar 1) xaNil)) xaNil))) rfl)
    (xsCons (xsFor (fun _ _ z => z.elim) rfl (xiRange1 rfl g.b_range (xaCons (xVar 4) xaNil)) (xgName (i := 6) sc_law_run_free.nd rfl (.inl rfl)) (xsOne (xsFor (fun _ _ z => z.elim) rfl (xiRange1 rfl g.b_range (xaCons (xVar 3) xaNil)) (xgName (i := 7) sc_law_run_free.nd rfl (.inl rfl)) (xsCons (xsSet (i := 8) sc_law_run_free.nd rfl (.inl rfl) (xH (xLst xaNil)))
    (xsCons (xsFor (fun _ _ z => z.elim) rfl (xiRange1 rfl g.b_range (xaCons (xCallB ct_min2 (call_min2 rfl) rfl g.b_min bt_min (xaCons (xOp ot_sub op_sub (xVar 2) xInt) (xaCons (xOp ot_mul oMul (xVar 3) (xVar 4)) xaNil))) xaNil)) (xgName (i := 9) sc_law_run_free.nd rfl (.inl rfl)) (xsCons (xsSet (i := 10) sc_law_run_free.nd rfl (.inl rfl) (xIx rfl (xVar 0) (xOp ot_mod op_mod (xCallTy ct_int oInt rfl g.b_int bt_int (xaCons (xOp ot_add oAdd (xVar 6) (xOp ot_mul oMul (xVar 9) (xIx rfl (xVar 5) xInt (fun _ _ => rfl)))) xaNil)) (xVar 4)) (fun _ _ => rfl)))
    (xsOne (xsExpr (xMt mt_append' rfl F.plainAttrs_list F.slot_list_append F.type_list_append mt_append (xVar 8) (xaCons (xIx rfl (xVar 10) (xOp ot_mod op_mod (xCallTy ct_int oInt rfl g.b_int bt_int (xaCons (xOp ot_add oAdd (xVar 7) (xOp ot_mul oMul (xVar 9) (xIx rfl (xVar 5) xInt (fun _ _ => rfl)))) xaNil)) (xVar 3)) (fun _ _ => rfl)) xaNil))))))
    (xsOne (xsIf (xtCmp ot_ninT (oNin (room80 hr)) (xVar 1) (xVar 8)) (xsOne (xsRet xBl)) xsNil)))))))
    (xsOne (xsRet xBl)))))
theorem sc_law_tile : FnScope ["_law_bag_here", "_law_wide", "_law_high", "_law_turns", "_law_found", "_law_k", "_law_turn", "_law_x", "_law_y", "_law_sign", "_law_step", "_law_to", "_law_up", "_law_row_here"] ["_law_bag_here", "_law_wide", "_law_high", "_law_turns"] (defScope (top 55)) := ⟨rfl, rfl, rfl, by decide +kernel, rfl, by decide +kernel, by decide +kernel⟩
theorem b_law_tile (g : Gs w K mg) : Binds K (fdOf K (He.ga K "_law_tile")) ["_law_bag_here", "_law_wide", "_law_high", "_law_turns"] [] := g.F_law_tile.bindsN fun _ _ _ _ _ _ us hl => match us, hl with | [_, _, _, _], _ => rfl
theorem ok_law_tile (g : Gs w K mg) : FnOk P w K mg base CX0 3 (He.ga K "_law_tile") (fdOf K (He.ga K "_law_tile")) ["_law_bag_here", "_law_wide", "_law_high", "_law_turns"] (spM (wd K) m_law_tile) :=
  fnCut (fnM g.F_law_tile sc_law_tile 14 4 rfl rfl fun cdv A outer s H E hr =>
    (xsCons (xsSetLcL (i := 4) (own := [("_law_k", 5)]) rfl sc_law_tile.nd rfl rfl rfl (xiRange1 rfl g.b_range (xaCons (xVar 2) xaNil)) (blk_of rfl rfl) (fun _ _ _ _ _ => (wgName (i := 5) (by decide) sc_law_tile.nd rfl (.inl rfl))) (fun _ _ _ _ _ => xtsNil) (fun _ _ _ _ _ => (xH (xMulF (xL (xLst (xaCons xStr xaNil))) (xVar 1)))))
    (xsCons (xsFor (fun _ _ z => z.elim) rfl (xiRange1 rfl g.b_range (xaCons (xVar 3) xaNil)) (xgName (i := 6) sc_law_tile.nd rfl (.inl rfl)) (xsCons (xsPar3 (i := 7) (j := 8) (l := 9) rfl sc_law_tile.nd rfl rfl rfl (by decide) (by decide) (by decide) rfl rfl rfl (xaCons (xCall (ok_law_take g) (hr.mono (by decide)) rfl g.f_law_take g.F_law_take.kp (b_law_take g) (xaCons (xVar 0) (xaCons (xVar 1) xaNil))) (xaCons (xCall (ok_law_take g) (hr.mono (by decide)) rfl g.f_law_take g.F_law_take.kp (b_law_take g) (xaCons (xVar 0) (xaCons (xVar 2) xaNil))) (xaCons (xCall (ok_law_of g) (hr.mono (by decide)) rfl g.f_law_of g.F_law_of.kp (b_law_of g) (xaCons (xVar 0) (xaCons (xL (xLst (xaCons xStr (xaCons xStr (xaCons xStr (xaCons xStr xaNil)))))) xaNil))) xaNil))) rfl)
    (xsCons (xsSet (i := 10) sc_law_tile.nd rfl (.inl rfl) (xCall (ok_law_ahead g) (hr.mono (by decide)) rfl g.f_law_ahead g.F_law_ahead.kp (b_law_ahead g) (xaCons (xVar 9) xaNil)))
    (xsCons (xsPar (i := 11) (j := 12) rfl sc_law_tile.nd rfl rfl (by decide) rfl rfl (xaCons (xOp ot_mod op_mod (xCallTy ct_int oInt rfl g.b_int bt_int (xaCons (xOp ot_add oAdd (xVar 7) (xIx rfl (xVar 10) xInt (fun _ _ => rfl))) xaNil)) (xVar 1)) (xaCons (xOp ot_mod op_mod (xCallTy ct_int oInt rfl g.b_int bt_int (xaCons (xOp ot_add oAdd (xVar 8) (xIx rfl (xVar 10) xInt (fun _ _ => rfl))) xaNil)) (xVar 2)) xaNil)) rfl)
    (xsOne (xsIf (xtW (xwAnd (xtCmp ot_ne (op_neP (room80 hr)) (xTup (xaCons (xVar 7) (xaCons (xVar 8) xaNil))) (xTup (xaCons (xVar 11) (xaCons (xVar 12) xaNil)))) (xwAnd (xtCmp ot_eq (op_eqP (room80 hr)) (xIx rfl (xIx rfl (xVar 4) (xVar 8) (fun _ _ => rfl)) (xVar 7) (fun _ _ => rfl)) xStr) (xwAnd1 (xtCmp ot_eq (op_eqP (room80 hr)) (xIx rfl (xIx rfl (xVar 4) (xVar 12) (fun _ _ => rfl)) (xVar 11) (fun _ _ => rfl)) xStr))))) (xsOne (xsAsg (xTup (xaCons (xVar 9) (xaCons (xCallTy ct_str call_str_int rfl g.b_str bt_str (xaCons (xOp ot_sub op_sub xInt (xCallTy ct_int oInt rfl g.b_int bt_int (xaCons (xVar 9) xaNil))) xaNil)) xaNil))) (xgTup (n := 2) rfl rfl (xgsCons (xgSub st_setL (xIx rfl (xVar 4) (xVar 8) (fun _ _ => rfl)) (xVar 7) set_list) (xgsCons (xgSub st_setL (xIx rfl (xVar 4) (xVar 12) (fun _ _ => rfl)) (xVar 11) set_list) xgsNil))))) xsNil))))))
    (xsOne (xsRet (xL (xLc (own := [("_law_row_here", 13)]) rfl sc_law_tile.nd (xiSeq rfl (xVar 4)) (blk_of rfl rfl) (fun _ _ _ _ _ => (wgName (i := 13) (by decide) sc_law_tile.nd rfl (.inl rfl))) (fun _ _ _ _ _ => xtsNil) (fun _ _ _ _ _ => (xMt mt_join' rfl F.plainAttrs_str F.slot_str_join F.type_str_join mt_join xStr (xaCons (xVar 13) xaNil))))))))))
theorem sc_law_is_tile : FnScope ["_law_tile_here", "_law_wide", "_law_high", "_law_y", "_law_x", "_law_sign", "_law_step", "_law_to", "_law_up"] ["_law_tile_here"] (defScope (top 58)) := ⟨rfl, rfl, rfl, by decide +kernel, rfl, by decide +kernel, by decide +kernel⟩
theorem b_law_is_tile (g : Gs w K mg) : Binds K (fdOf K (He.ga K "_law_is_tile")) ["_law_tile_here"] [] := g.F_law_is_tile.bindsN fun _ _ _ _ _ _ us hl => match us, hl with | [_], _ => rfl
theorem ok_law_is_tile (g : Gs w K mg) : FnOk P w K mg base CX0 2 (He.ga K "_law_is_tile") (fdOf K (He.ga K "_law_is_tile")) ["_law_tile_here"] (spM (wd K) m_law_is_tile) :=
  fnM g.F_law_is_tile sc_law_is_tile 9 1 rfl rfl fun cdv A outer s H E hr =>
    (xsCons (xsPar (i := 1) (j := 2) rfl sc_law_is_tile.nd rfl rfl (by decide) rfl rfl (xaCons (xCallB ct_len call_len rfl g.b_len bt_len (xaCons (xIx rfl (xVar 0) xInt (fun _ _ => rfl)) xaNil)) (xaCons (xCallB ct_len call_len rfl g.b_len bt_len (xaCons (xVar 0) xaNil)) xaNil)) rfl)
    (xsCons (xsFor (fun _ _ z => z.elim) rfl (xiRange1 rfl g.b_range (xaCons (xVar 2) xaNil)) (xgName (i := 3) sc_law_is_tile.nd rfl (.inl rfl)) (xsOne (xsFor (fun _ _ z => z.elim) rfl (xiRange1 rfl g.b_range (xaCons (xVar 1) xaNil)) (xgName (i := 4) sc_law_is_tile.nd rfl (.inl rfl)) (xsCons (xsSet (i := 5) sc_law_is_tile.nd rfl (.inl rfl) (xIx rfl (xIx rfl (xVar 0) (xVar 3) (fun _ _ => rfl)) (xVar 4) (fun _ _ => rfl)))
    (xsOne (xsIf (xtCmp ot_ne (op_neP (room80 hr)) (xVar 5) xStr) (xsCons (xsSet (i := 6) sc_law_is_tile.nd rfl (.inl rfl) (xCall (ok_law_ahead g) (hr.mono (by decide)) rfl g.f_law_ahead g.F_law_ahead.kp (b_law_ahead g) (xaCons (xVar 5) xaNil)))
    (xsCons (xsPar (i := 7) (j := 8) rfl sc_law_is_tile.nd rfl rfl (by decide) rfl rfl (xaCons (xOp ot_mod op_mod (xCallTy ct_int oInt rfl g.b_int bt_int (xaCons (xOp ot_add oAdd (xVar 4) (xIx rfl (xVar 6) xInt (fun _ _ => rfl))) xaNil)) (xVar 1)) (xaCons (xOp ot_mod op_mod (xCallTy ct_int oInt rfl g.b_int bt_int (xaCons (xOp ot_add oAdd (xVar 3) (xIx rfl (xVar 6) xInt (fun _ _ => rfl))) xaNil)) (xVar 2)) xaNil)) rfl)
    (xsOne (xsIf (xtCmp ot_ne (op_neP (room80 hr)) (xOp ot_add oAdd (xCallTy ct_int oInt rfl g.b_int bt_int (xaCons (xIx rfl (xIx rfl (xVar 0) (xVar 8) (fun _ _ => rfl)) (xVar 7) (fun _ _ => rfl)) xaNil)) (xCallTy ct_int oInt rfl g.b_int bt_int (xaCons (xVar 5) xaNil))) xInt) (xsOne (xsRet xBl)) xsNil)))) xsNil))))))
    (xsOne (xsRet xBl))))
theorem sc_law_tile_read : FnScope ["_law_text_here", "_law_found", "_law_row_here", "_law_sign"] ["_law_text_here"] (defScope (top 59)) := ⟨rfl, rfl, rfl, by decide +kernel, rfl, by decide +kernel, by decide +kernel⟩
theorem b_law_tile_read (g : Gs w K mg) : Binds K (fdOf K (He.ga K "_law_tile_read")) ["_law_text_here"] [] := g.F_law_tile_read.bindsN fun _ _ _ _ _ _ us hl => match us, hl with | [_], _ => rfl
theorem ok_law_tile_read (g : Gs w K mg) : FnOk P w K mg base CX0 3 (He.ga K "_law_tile_read") (fdOf K (He.ga K "_law_tile_read")) ["_law_text_here"] (spM (wd K) m_law_tile_read) :=
  fnM g.F_law_tile_read sc_law_tile_read 4 1 rfl rfl fun cdv A outer s H E hr =>
    (xsCons (xsIf (xtNot (xtVal (xIsi (y := .b "str") rfl g.ok rfl (.ty _) g.i_str (xVar 0) (pe_bltn rfl g.b_str bt_str rfl) rfl g.b_isinstance))) (xsOne (xsRet (xL (xLst xaNil)))) xsNil)
    (xsCons (xsSet (i := 1) sc_law_tile_read.nd rfl (.inl rfl) (xRev rfl (xMt mt_split' rfl F.plainAttrs_str F.slot_str_split F.type_str_split mt_split (xVar 0) (xaCons xStr xaNil))))
    (xsCons (xsIf (xtW (xwOr (xtCmp ot_gt (oGt (room80 hr)) (xCallB ct_len call_len rfl g.b_len bt_len (xaCons (xVar 1) xaNil)) xInt) (xwOr1 (xtNot (xtChain ot_lt ot_lt (oLt (room80 hr)) (oLt (room80 hr)) xInt (xCallB ct_len call_len rfl g.b_len bt_len (xaCons (xIx rfl (xVar 1) xInt (fun _ _ => rfl)) xaNil)) xInt))))) (xsOne (xsRet (xL (xLst xaNil)))) xsNil)
    (xsCons (xsFor (fun _ _ z => z.elim) rfl (xiSeq rfl (xVar 1)) (xgName (i := 2) sc_law_tile_read.nd rfl (.inl rfl)) (xsOne (xsIf (xtW (xwOr (xtCmp ot_ne (op_neP (room80 hr)) (xCallB ct_len call_len rfl g.b_len bt_len (xaCons (xVar 2) xaNil)) (xCallB ct_len call_len rfl g.b_len bt_len (xaCons (xIx rfl (xVar 1) xInt (fun _ _ => rfl)) xaNil))) (xwOr1 (xtCmp ot_ne (op_neP (room80 hr)) (xL (xLc (own := [("_law_sign", 3)]) rfl sc_law_tile_read.nd (xiSeq rfl (xVar 2)) (blk_of rfl rfl) (fun _ _ _ _ _ => (wgName (i := 3) (by decide) sc_law_tile_read.nd rfl (.inl rfl))) (fun _ _ _ _ _ => (xtsOne (xtCmp ot_ninT (oNin (room80 hr)) (xVar 3) xStr))) (fun _ _ _ _ _ => (xVar 3)))) (xL (xLst xaNil)))))) (xsOne (xsRet (xL (xLst xaNil)))) xsNil)))
    (xsOne (xsRet (xIf (xtVal (xCall (ok_law_is_tile g) (hr.mono (by decide)) rfl g.f_law_is_tile g.F_law_is_tile.kp (b_law_is_tile g) (xaCons (xVar 1) xaNil))) (xVar 1) (xL (xLst xaNil)))))))))
theorem sc_law_tile_text : FnScope ["_law_tile_here"] ["_law_tile_here"] (defScope (top 56)) := ⟨rfl, rfl, rfl, by decide +kernel, rfl, by decide +kernel, by decide +kernel⟩
theorem b_law_tile_text (g : Gs w K mg) : Binds K (fdOf K (He.ga K "_law_tile_text")) ["_law_tile_here"] [] := g.F_law_tile_text.bindsN fun _ _ _ _ _ _ us hl => match us, hl with | [_], _ => rfl
theorem ok_law_tile_text (g : Gs w K mg) : FnOk P w K mg base CX0 1 (He.ga K "_law_tile_text") (fdOf K (He.ga K "_law_tile_text")) ["_law_tile_here"] (spM (wd K) m_law_tile_text) :=
  fnM g.F_law_tile_text sc_law_tile_text 1 1 rfl rfl fun cdv A outer s H E hr =>
    (xsOne (xsRet (xMt mt_join' rfl F.plainAttrs_str F.slot_str_join F.type_str_join mt_join xStr (xaCons (xRev rfl (xVar 0)) xaNil))))
theorem sc_law_whole : FnScope ["_law_thing"] ["_law_thing"] (defScope (top 52)) := ⟨rfl, rfl, rfl, by decide +kernel, rfl, by decide +kernel, by decide +kernel⟩
theorem b_law_whole (g : Gs w K mg) : Binds K (fdOf K (He.ga K "_law_whole")) ["_law_thing"] [] := g.F_law_whole.bindsN fun _ _ _ _ _ _ us hl => match us, hl with | [_], _ => rfl
theorem ok_law_whole (g : Gs w K mg) : FnOk P w K mg base CX0 1 (He.ga K "_law_whole") (fdOf K (He.ga K "_law_whole")) ["_law_thing"] (spM (wd K) m_law_whole) :=
  fnM g.F_law_whole sc_law_whole 1 1 rfl rfl fun cdv A outer s H E hr =>
    (xsOne (xsRet (xAnd (xIsi (y := .b "int") rfl g.ok rfl (.ty _) g.i_int (xVar 0) (pe_bltn rfl g.b_int bt_int rfl) rfl g.b_isinstance) (xOne (xNot (xIsi (y := .b "bool") rfl g.ok rfl (.ty _) g.i_bool (xVar 0) (pe_bltn rfl g.b_bool bt_bool rfl) rfl g.b_isinstance))))))
theorem sc_law_right : FnScope ["_law_bag_here", "_law_turn", "_law_wide", "_law_high", "_law_text_here", "_law_tile_here", "_law_way_here", "_law_size", "_law_fine", "_law_open_here", "_law_sign", "_law_signs", "_law_due"] ["_law_bag_here"] (defScope (top 61)) := ⟨rfl, rfl, rfl, by decide +kernel, rfl, by decide +kernel, by decide +kernel⟩
theorem b_law_right (g : Gs w K mg) : Binds K (fdOf K (He.ga K "_law_right")) ["_law_bag_here"] [] := g.F_law_right.bindsN fun _ _ _ _ _ _ us hl => match us, hl with | [_], _ => rfl
theorem ok_law_right (g : Gs w K mg) : FnQ P w K mg base (wd K) 7 (He.ga K "_law_right") (fdOf K (He.ga K "_law_right")) ["_law_bag_here"] m_law_right :=
  fnQ g.F_law_right sc_law_right 13 1 rfl rfl fun cdv A outer s H E hq hr =>
    (xsCons (xsFor (fun _ _ z => z.elim) rfl (xiRange1 rfl g.b_range (xaCons xInt xaNil)) (xgName (i := 1) sc_law_right.nd rfl (.inl rfl)) (xsCons (xsPar (i := 2) (j := 3) rfl sc_law_right.nd rfl rfl (by decide) rfl rfl (xaCons (xOp ot_add oAdd xInt (xCall (ok_law_take g) (hr.mono (by decide)) rfl g.f_law_take g.F_law_take.kp (b_law_take g) (xaCons (xVar 0) (xaCons xInt xaNil)))) (xaCons (xOp ot_add oAdd xInt (xCall (ok_law_take g) (hr.mono (by decide)) rfl g.f_law_take g.F_law_take.kp (b_law_take g) (xaCons (xVar 0) (xaCons xInt xaNil)))) xaNil)) rfl)
    (xsCons (xsSet (i := 4) sc_law_right.nd rfl (.inl rfl) (xCall (ok_law_bent_tile g) (hr.mono (by decide)) rfl g.f_law_bent_tile g.F_law_bent_tile.kp (b_law_bent_tile g) (xaCons (xVar 0) (xaCons (xCall (ok_law_tile_text g) (hr.mono (by decide)) rfl g.f_law_tile_text g.F_law_tile_text.kp (b_law_tile_text g) (xaCons (xCall (ok_law_tile g) (hr.mono (by decide)) rfl g.f_law_tile g.F_law_tile.kp (b_law_tile g) (xaCons (xVar 0) (xaCons (xVar 2) (xaCons (xVar 3) (xaCons xInt xaNil))))) xaNil)) xaNil))))
    (xsCons (xsSet (i := 5) sc_law_right.nd rfl (.inr rfl) (xCall (ok_law_tile_read g) (hr.mono (by decide)) rfl g.f_law_tile_read g.F_law_tile_read.kp (b_law_tile_read g) (xaCons (xVar 4) xaNil)))
    (xsCons (xsSet (i := 6) sc_law_right.nd rfl (.inl rfl) (xCall (ok_law_of g) (hr.mono (by decide)) rfl g.f_law_of g.F_law_of.kp (b_law_of g) (xaCons (xVar 0) (xaCons (xL (xLst (xaCons xStr (xaCons xStr (xaCons xStr (xaCons xStr (xaCons xStr (xaCons xStr (xaCons xStr (xaCons xStr (xaCons xStr (xaCons xNon (xaCons xInt (xaCons (xTup (xaCons xStr xaNil)) (xaCons xStr xaNil))))))))))))))) xaNil))))
    (xsCons (xsSet (i := 7) sc_law_right.nd rfl (.inr rfl) (xCall (ok_law_of g) (hr.mono (by decide)) rfl g.f_law_of g.F_law_of.kp (b_law_of g) (xaCons (xVar 0) (xaCons (xL (xLst (xaCons xInt (xaCons xInt (xaCons xInt (xaCons xInt (xaCons (xOp ot_pow op_pow xInt xInt) (xaCons xInt (xaCons (xNeg xInt) (xaCons xNon (xaCons xBl (xaCons xStr (xaCons (xTup (xaCons xInt xaNil)) (xaCons xBl xaNil)))))))))))))) xaNil))))
    (xsCons (xsSet (i := 8) sc_law_right.nd rfl (.inr rfl) (xAnd (xCmp ot_ne (op_neP (room80 hr)) (xVar 5) (xL (xLst xaNil))) (xAnd (xCall (ok_law_whole g) (hr.mono (by decide)) rfl g.f_law_whole g.F_law_whole.kp (b_law_whole g) (xaCons (xVar 7) xaNil)) (xOne (xCmp ot_gt (oGt (room80 hr)) (xVar 7) xInt)))))
    (xsCons (xsSetLcL (i := 9) (own := [("_law_sign", 10)]) rfl sc_law_right.nd rfl rfl rfl (xiSeq rfl (xL (xLst (xaCons xStr (xaCons xStr (xaCons xStr (xaCons xStr xaNil))))))) (blk_of rfl rfl) (fun _ _ _ _ _ => (wgName (i := 10) (by decide) sc_law_right.nd rfl (.inl rfl))) (fun _ _ _ _ _ => (xtsOne (xtW (xwAnd (xtVal (xVar 8)) (xwAnd1 (xtVal (xCall (ok_law_run_free g) (hr.mono (by decide)) rfl g.f_law_run_free g.F_law_run_free.kp (b_law_run_free g) (xaCons (xVar 5) (xaCons (xVar 10) (xaCons (xVar 7) xaNil)))))))))) (fun _ _ _ _ _ => (xVar 10)))
    (xsCons (xsIf (xtNot (xtVal (xCallQ (ok_law_judge g) hq (hr.mono (by decide)) rfl g.f_law_judge g.F_law_judge.kp (b_law_judge g) (xaCons (xTup (xaCons xStr (xaCons (xVar 4) (xaCons (xVar 7) xaNil)))) (xaCons xNon (xaCons (xAnd (xVar 8) (xOne (xCmp ot_eq (op_eqP (room80 hr)) (xVar 9) (xL (xLst xaNil))))) xaNil)))))) (xsOne (xsRet xBl)) xsNil)
    (xsCons (xsSet (i := 11) sc_law_right.nd rfl (.inl rfl) (xDisp (xpCons xStr xStr (xpCons xStr xStr (xpCons xStr xStr (xpCons xStr xStr xpNil))))))
    (xsCons (xsSet (i := 12) sc_law_right.nd rfl (.inl rfl) (xAnd (xVar 8) (xAnd (xIsi (y := .b "str") rfl g.ok rfl (.ty _) g.i_str (xVar 6) (pe_bltn rfl g.b_str bt_str rfl) rfl g.b_isinstance) (xOne (xDIn (room1 hr) (xVar 6) (xVar 11))))))
    (xsCons (xsSet (i := 12) sc_law_right.nd rfl (.inl rfl) (xAnd (xVar 12) (xOne (xCall (ok_law_run_free g) (hr.mono (by decide)) rfl g.f_law_run_free g.F_law_run_free.kp (b_law_run_free g) (xaCons (xVar 5) (xaCons (xDGet (room1 hr) (xVar 11) (xVar 6)) (xaCons (xVar 7) xaNil)))))))
    (xsOne (xsIf (xtNot (xtVal (xCallQ (ok_law_judge g) hq (hr.mono (by decide)) rfl g.f_law_judge g.F_law_judge.kp (b_law_judge g) (xaCons (xTup (xaCons xStr (xaCons (xVar 4) (xaCons (xVar 6) (xaCons (xVar 7) xaNil))))) (xaCons xNon (xaCons (xVar 12) xaNil)))))) (xsOne (xsRet xBl)) xsNil))))))))))))))
    (xsOne (xsRet xBl)))
theorem sc_law : FnScope ["_law_script", "_law_spot"] ["_law_script"] (defScope (top 62)) := ⟨rfl, rfl, rfl, by decide +kernel, rfl, by decide +kernel, by decide +kernel⟩
theorem b_law (g : Gs w K mg) : Binds K (fdOf K (He.ga K "law")) ["_law_script"] [] := g.F_law.bindsN fun _ _ _ _ _ _ us hl => match us, hl with | [_], _ => rfl
theorem ok_law (g : Gs w K mg) : FnQ P w K mg base (wd K) 8 (He.ga K "law") (fdOf K (He.ga K "law")) ["_law_script"] m_law :=
  fnQ g.F_law sc_law 2 1 rfl rfl fun cdv A outer s H E hq hr =>
    (xsOne (xsRet (xCallB ct_all (cr_all rfl) rfl g.b_all bt_all (xaCons (xL (xLc (own := [("_law_spot", 1)]) rfl sc_law.nd (xiRange1 rfl g.b_range (xaCons (xCallB ct_max2 (call_max2 rfl) rfl g.b_max bt_max (xaCons xInt (xaCons (xCallB ct_min2 (call_min2 rfl) rfl g.b_min bt_min (xaCons (xCallB ct_len call_len rfl g.b_len bt_len (xaCons (xVar 0) xaNil)) (xaCons xInt xaNil))) xaNil))) xaNil)) (blk_of rfl rfl) (fun _ _ _ _ _ => (wgName (i := 1) (by decide) sc_law.nd rfl (.inl rfl))) (fun _ _ _ _ _ => xtsNil) (fun _ _ _ _ _ => (xCallQ (ok_law_right g) hq (hr.mono (by decide)) rfl g.f_law_right g.F_law_right.kp (b_law_right g) (xaCons (xCall (ok_law_bag g) (hr.mono (by decide)) rfl g.f_law_bag g.F_law_bag.kp (b_law_bag g) (xaCons (xVar 0) (xaCons (xVar 1) xaNil))) xaNil))))) xaNil))))
end
end K61

set_option Elab.async false
set_option linter.all false
set_option maxRecDepth 100000
set_option maxHeartbeats 4000000
namespace K61
open K33
open K58
open K57
open PySem PySem.Spec PyProof.Rows L2 TL
def fa0 : List He.Fa := [.free "abs", .free "all", .free "any", .free "bool", .free "divmod", .free "int", .free "isinstance", .free "len", .free "max", .free "min", .free "range", .free "repr", .free "str", .free "tuple", .glo "_law_bag", .glo "_law_take", .glo "_law_of", .glo "_law_bent_tile", .glo "sign_at", .glo "free_from", .glo "has_free", .glo "is_whole", .glo "is_number", .glo "is_mutual_at", .glo "rows_told", .glo "tile_told", .glo "shows_pattern", .glo "accepts", .glo "_law_judge", .glo "_law_ahead"]
def fa1 : List He.Fa := [.glo "_law_run_free", .glo "_law_tile", .glo "_law_is_tile", .glo "_law_tile_read", .glo "_law_tile_text", .glo "_law_whole", .glo "_law_right", .glo "law", .glo "FIGURE_OF", .int "MOST_SIDE" 12, .glo "SIZES", .glo "STEPS"]
def fa : List He.Fa := fa0 ++ fa1
def ts : List He.Tab := [((fun K => He.ga K "FIGURE_OF"), ["e", "n", "a", "b"]), ((fun K => He.ga K "SIZES"), ["own", "pairs", "lacks", "weight", "forced", "makes", "holds", "held", "free"]), ((fun K => He.ga K "STEPS"), ["6", "4", "8", "2", "9", "1", "7", "3"])]
def exs (K : PySem.W.Frag) : List Bool := [isiChk cl K (.type "bool") (.b "bool"), isiChk cl K (.type "int") (.b "int"), isiChk cl K (.type "str") (.b "str"), isiChk cl K (.type "tuple") (.b "tuple"), kdB K "FIGURE_OF" kv_FIGURE_OF, kdB K "SIZES" kv_SIZES, kdB K "STEPS" kv_STEPS]
def ex (K : PySem.W.Frag) : Bool := (exs K).all id
def d_law_bag : He.DefD := ⟨("_law_bag", none), "_law_bag", "_law_bag", defArgs (top 49), defBody (top 49), defScope (top 49), [], []⟩
def d_law_take : He.DefD := ⟨("_law_take", none), "_law_take", "_law_take", defArgs (top 50), defBody (top 50), defScope (top 50), [], []⟩
def d_law_of : He.DefD := ⟨("_law_of", none), "_law_of", "_law_of", defArgs (top 51), defBody (top 51), defScope (top 51), [], []⟩
def d_law_bent_tile : He.DefD := ⟨("_law_bent_tile", none), "_law_bent_tile", "_law_bent_tile", defArgs (top 60), defBody (top 60), defScope (top 60), [], []⟩
def d_sign_at : He.DefD := ⟨("sign_at", none), "sign_at", "sign_at", defArgs (top 28), defBody (top 28), defScope (top 28), [], []⟩
def d_free_from : He.DefD := ⟨("free_from", none), "free_from", "free_from", defArgs (top 31), defBody (top 31), defScope (top 31), [], []⟩
def d_has_free : He.DefD := ⟨("has_free", none), "has_free", "has_free", defArgs (top 32), defBody (top 32), defScope (top 32), [], []⟩
def d_is_whole : He.DefD := ⟨("is_whole", none), "is_whole", "is_whole", defArgs (top 6), defBody (top 6), defScope (top 6), [], []⟩
def d_is_number : He.DefD := ⟨("is_number", none), "is_number", "is_number", defArgs (top 36), defBody (top 36), defScope (top 36), [], []⟩
def d_is_mutual_at : He.DefD := ⟨("is_mutual_at", none), "is_mutual_at", "is_mutual_at", defArgs (top 29), defBody (top 29), defScope (top 29), [], []⟩
def d_rows_told : He.DefD := ⟨("rows_told", none), "rows_told", "rows_told", defArgs (top 27), defBody (top 27), defScope (top 27), [], []⟩
def d_tile_told : He.DefD := ⟨("tile_told", none), "tile_told", "tile_told", defArgs (top 30), defBody (top 30), defScope (top 30), [], []⟩
def d_shows_pattern : He.DefD := ⟨("shows_pattern", none), "shows_pattern", "shows_pattern", defArgs (top 46), defBody (top 46), defScope (top 46), [], []⟩
def d_accepts : He.DefD := ⟨("accepts", none), "accepts", "accepts", defArgs (top 47), defBody (top 47), defScope (top 47), [], []⟩
def d_law_judge : He.DefD := ⟨("_law_judge", none), "_law_judge", "_law_judge", defArgs (top 53), defBody (top 53), defScope (top 53), [], []⟩
def d_law_ahead : He.DefD := ⟨("_law_ahead", none), "_law_ahead", "_law_ahead", defArgs (top 54), defBody (top 54), defScope (top 54), [], []⟩
def d_law_run_free : He.DefD := ⟨("_law_run_free", none), "_law_run_free", "_law_run_free", defArgs (top 57), defBody (top 57), defScope (top 57), [], []⟩
def d_law_tile : He.DefD := ⟨("_law_tile", none), "_law_tile", "_law_tile", defArgs (top 55), defBody (top 55), defScope (top 55), [], []⟩
def d_law_is_tile : He.DefD := ⟨("_law_is_tile", none), "_law_is_tile", "_law_is_tile", defArgs (top 58), defBody (top 58), defScope (top 58), [], []⟩
def d_law_tile_read : He.DefD := ⟨("_law_tile_read", none), "_law_tile_read", "_law_tile_read", defArgs (top 59), defBody (top 59), defScope (top 59), [], []⟩
def d_law_tile_text : He.DefD := ⟨("_law_tile_text", none), "_law_tile_text", "_law_tile_text", defArgs (top 56), defBody (top 56), defScope (top 56), [], []⟩
def d_law_whole : He.DefD := ⟨("_law_whole", none), "_law_whole", "_law_whole", defArgs (top 52), defBody (top 52), defScope (top 52), [], []⟩
def d_law_right : He.DefD := ⟨("_law_right", none), "_law_right", "_law_right", defArgs (top 61), defBody (top 61), defScope (top 61), [], []⟩
def d_law : He.DefD := ⟨("law", none), "law", "law", defArgs (top 62), defBody (top 62), defScope (top 62), [], []⟩
def fn0 : List He.DefD := [d_law_bag, d_law_take, d_law_of, d_law_bent_tile, d_sign_at, d_free_from, d_has_free, d_is_whole, d_is_number, d_is_mutual_at, d_rows_told, d_tile_told, d_shows_pattern, d_accepts, d_law_judge, d_law_ahead, d_law_run_free, d_law_tile, d_law_is_tile, d_law_tile_read, d_law_tile_text, d_law_whole, d_law_right, d_law]
def fn : List He.DefD := fn0
abbrev R : PySem.W.OpenRow := PySem.W.OpenLaw.row PySem.Challenge.rw_pairheld_k61_patterns_in_claims
abbrev hk : PySem.W.Hook := He.hookX 4 fa fn ts [] ex
def ob (s : PySem.W.SharedT) : He.AlX := He.obsX 4 fa fn ts [] ex (HandSHeadRun.getT s)
theorem ob_eq (s : PySem.W.SharedT) : ob s = hk.obs s.abs := He.obsX_eq (HandSHeadRun.getT_eq s)
def lo0 : List Str := ["MOST_CELLS", "MOST_LINES", "MOST_FREE", "MOST_SIDE", "__name__", "DIGITS", "is_whole", "power", "number_told", "line_told", "is_rising", "board_told", "are_cells", "Sheet", "sheet_told", "bits_of", "after_mine", "after_its", "bits_in", "Outcomes", "is_made_by", "replies_to", "is_row_of_threats", "STEPS", "FIGURE_OF", "rows_told", "sign_at", "is_mutual_at", "tile_told", "free_from"]
def lo1 : List Str := ["has_free", "SIZES", "MOST_MANY", "is_number", "are_twos", "is_within", "shows_own", "shows_pairs", "shows_lack", "is_weight", "has_divisor", "is_play", "shows_stand", "shows_pattern", "accepts", "_law_bag", "_law_take", "_law_of", "_law_whole", "_law_judge", "_law_ahead", "_law_tile", "_law_tile_text", "_law_run_free", "_law_is_tile", "_law_tile_read", "_law_bent_tile", "_law_right"]
def lo : List Str := lo0 ++ lo1
set_option maxHeartbeats 0 in
theorem run (w : World) : HandSHeadRun.RunEq R (PySem.W.view R.prog [62]) hk ob 8000 lo w :=
  PySem.W.byRow2 "special-get-raises" (P := fun w => HandSHeadRun.RunEq R (PySem.W.view R.prog [62]) hk ob 8000 lo w) (fun w => by intro os; kernel_rfl) (fun w => by intro os; kernel_rfl) w
theorem gs {w : World} {K : PySem.W.Frag} {h : Heap} {mg : Str → Option Value} (X : K.In h) (G : h.Ns mainGlobals mg) (c : He.SaysX fa fn ts [] ex w h K) : Gs w K mg := by
  have cd := c.t.d
  have e_i_bool : (isiChk cl K (.type "bool") (.b "bool")) = true := List.all_eq_true.mp c.more _ (List.mem_of_getElem? (i := 0) rfl)
  have e_i_int : (isiChk cl K (.type "int") (.b "int")) = true := List.all_eq_true.mp c.more _ (List.mem_of_getElem? (i := 1) rfl)
  have e_i_str : (isiChk cl K (.type "str") (.b "str")) = true := List.all_eq_true.mp c.more _ (List.mem_of_getElem? (i := 2) rfl)
  have e_i_tuple : (isiChk cl K (.type "tuple") (.b "tuple")) = true := List.all_eq_true.mp c.more _ (List.mem_of_getElem? (i := 3) rfl)
  have e_d_FIGURE_OF : (kdB K "FIGURE_OF" kv_FIGURE_OF) = true := List.all_eq_true.mp c.more _ (List.mem_of_getElem? (i := 4) rfl)
  have e_d_SIZES : (kdB K "SIZES" kv_SIZES) = true := List.all_eq_true.mp c.more _ (List.mem_of_getElem? (i := 5) rfl)
  have e_d_STEPS : (kdB K "STEPS" kv_STEPS) = true := List.all_eq_true.mp c.more _ (List.mem_of_getElem? (i := 6) rfl)
  exact {
    b_abs := He.free_ok X G (cd.fact 0 (f := .free "abs") rfl)
    b_all := He.free_ok X G (cd.fact 1 (f := .free "all") rfl)
    b_any := He.free_ok X G (cd.fact 2 (f := .free "any") rfl)
    b_bool := He.free_ok X G (cd.fact 3 (f := .free "bool") rfl)
    b_divmod := He.free_ok X G (cd.fact 4 (f := .free "divmod") rfl)
    b_int := He.free_ok X G (cd.fact 5 (f := .free "int") rfl)
    b_isinstance := He.free_ok X G (cd.fact 6 (f := .free "isinstance") rfl)
    b_len := He.free_ok X G (cd.fact 7 (f := .free "len") rfl)
    b_max := He.free_ok X G (cd.fact 8 (f := .free "max") rfl)
    b_min := He.free_ok X G (cd.fact 9 (f := .free "min") rfl)
    b_range := He.free_ok X G (cd.fact 10 (f := .free "range") rfl)
    b_repr := He.free_ok X G (cd.fact 11 (f := .free "repr") rfl)
    b_str := He.free_ok X G (cd.fact 12 (f := .free "str") rfl)
    b_tuple := He.free_ok X G (cd.fact 13 (f := .free "tuple") rfl)
    f_law_bag := He.glo_ok X G (cd.fact 14 (f := .glo "_law_bag") rfl)
    F_law_bag := let ⟨_, z⟩ := cd.def_ 0 (d := d_law_bag) rfl; funD_at z
    f_law_take := He.glo_ok X G (cd.fact 15 (f := .glo "_law_take") rfl)
    F_law_take := let ⟨_, z⟩ := cd.def_ 1 (d := d_law_take) rfl; funD_at z
    f_law_of := He.glo_ok X G (cd.fact 16 (f := .glo "_law_of") rfl)
    F_law_of := let ⟨_, z⟩ := cd.def_ 2 (d := d_law_of) rfl; funD_at z
    f_law_bent_tile := He.glo_ok X G (cd.fact 17 (f := .glo "_law_bent_tile") rfl)
    F_law_bent_tile := let ⟨_, z⟩ := cd.def_ 3 (d := d_law_bent_tile) rfl; funD_at z
    f_sign_at := He.glo_ok X G (cd.fact 18 (f := .glo "sign_at") rfl)
    F_sign_at := let ⟨_, z⟩ := cd.def_ 4 (d := d_sign_at) rfl; funD_at z
    f_free_from := He.glo_ok X G (cd.fact 19 (f := .glo "free_from") rfl)
    F_free_from := let ⟨_, z⟩ := cd.def_ 5 (d := d_free_from) rfl; funD_at z
    f_has_free := He.glo_ok X G (cd.fact 20 (f := .glo "has_free") rfl)
    F_has_free := let ⟨_, z⟩ := cd.def_ 6 (d := d_has_free) rfl; funD_at z
    f_is_whole := He.glo_ok X G (cd.fact 21 (f := .glo "is_whole") rfl)
    F_is_whole := let ⟨_, z⟩ := cd.def_ 7 (d := d_is_whole) rfl; funD_at z
    f_is_number := He.glo_ok X G (cd.fact 22 (f := .glo "is_number") rfl)
    F_is_number := let ⟨_, z⟩ := cd.def_ 8 (d := d_is_number) rfl; funD_at z
    f_is_mutual_at := He.glo_ok X G (cd.fact 23 (f := .glo "is_mutual_at") rfl)
    F_is_mutual_at := let ⟨_, z⟩ := cd.def_ 9 (d := d_is_mutual_at) rfl; funD_at z
    f_rows_told := He.glo_ok X G (cd.fact 24 (f := .glo "rows_told") rfl)
    F_rows_told := let ⟨_, z⟩ := cd.def_ 10 (d := d_rows_told) rfl; funD_at z
    f_tile_told := He.glo_ok X G (cd.fact 25 (f := .glo "tile_told") rfl)
    F_tile_told := let ⟨_, z⟩ := cd.def_ 11 (d := d_tile_told) rfl; funD_at z
    f_shows_pattern := He.glo_ok X G (cd.fact 26 (f := .glo "shows_pattern") rfl)
    F_shows_pattern := let ⟨_, z⟩ := cd.def_ 12 (d := d_shows_pattern) rfl; funD_at z
    f_accepts := He.glo_ok X G (cd.fact 27 (f := .glo "accepts") rfl)
    F_accepts := let ⟨_, z⟩ := cd.def_ 13 (d := d_accepts) rfl; funD_at z
    f_law_judge := He.glo_ok X G (cd.fact 28 (f := .glo "_law_judge") rfl)
    F_law_judge := let ⟨_, z⟩ := cd.def_ 14 (d := d_law_judge) rfl; funD_at z
    f_law_ahead := He.glo_ok X G (cd.fact 29 (f := .glo "_law_ahead") rfl)
    F_law_ahead := let ⟨_, z⟩ := cd.def_ 15 (d := d_law_ahead) rfl; funD_at z
    f_law_run_free := He.glo_ok X G (cd.fact 30 (f := .glo "_law_run_free") rfl)
    F_law_run_free := let ⟨_, z⟩ := cd.def_ 16 (d := d_law_run_free) rfl; funD_at z
    f_law_tile := He.glo_ok X G (cd.fact 31 (f := .glo "_law_tile") rfl)
    F_law_tile := let ⟨_, z⟩ := cd.def_ 17 (d := d_law_tile) rfl; funD_at z
    f_law_is_tile := He.glo_ok X G (cd.fact 32 (f := .glo "_law_is_tile") rfl)
    F_law_is_tile := let ⟨_, z⟩ := cd.def_ 18 (d := d_law_is_tile) rfl; funD_at z
    f_law_tile_read := He.glo_ok X G (cd.fact 33 (f := .glo "_law_tile_read") rfl)
    F_law_tile_read := let ⟨_, z⟩ := cd.def_ 19 (d := d_law_tile_read) rfl; funD_at z
    f_law_tile_text := He.glo_ok X G (cd.fact 34 (f := .glo "_law_tile_text") rfl)
    F_law_tile_text := let ⟨_, z⟩ := cd.def_ 20 (d := d_law_tile_text) rfl; funD_at z
    f_law_whole := He.glo_ok X G (cd.fact 35 (f := .glo "_law_whole") rfl)
    F_law_whole := let ⟨_, z⟩ := cd.def_ 21 (d := d_law_whole) rfl; funD_at z
    f_law_right := He.glo_ok X G (cd.fact 36 (f := .glo "_law_right") rfl)
    F_law_right := let ⟨_, z⟩ := cd.def_ 22 (d := d_law_right) rfl; funD_at z
    f_law := He.glo_ok X G (cd.fact 37 (f := .glo "law") rfl)
    F_law := let ⟨_, z⟩ := cd.def_ 23 (d := d_law) rfl; funD_at z
    ok := wd_ok (fun q hq => by
      simp only [cl, List.mem_cons, List.not_mem_nil, or_false] at hq
      skip)
    i_bool := isi_of e_i_bool
    i_int := isi_of e_i_int
    i_str := isi_of e_i_str
    i_tuple := isi_of e_i_tuple
    c_FIGURE_OF := He.glo_ok X G (cd.fact 38 (f := .glo "FIGURE_OF") rfl)
    d_FIGURE_OF := kd_of (c.t.tab 0 (t := ((fun K => He.ga K "FIGURE_OF"), ["e", "n", "a", "b"])) rfl) e_d_FIGURE_OF
    c_MOST_SIDE := He.int_ok X G (cd.fact 39 (f := .int "MOST_SIDE" 12) rfl)
    c_SIZES := He.glo_ok X G (cd.fact 40 (f := .glo "SIZES") rfl)
    d_SIZES := kd_of (c.t.tab 1 (t := ((fun K => He.ga K "SIZES"), ["own", "pairs", "lacks", "weight", "forced", "makes", "holds", "held", "free"])) rfl) e_d_SIZES
    c_STEPS := He.glo_ok X G (cd.fact 41 (f := .glo "STEPS") rfl)
    d_STEPS := kd_of (c.t.tab 2 (t := ((fun K => He.ga K "STEPS"), ["6", "4", "8", "2", "9", "1", "7", "3"])) rfl) e_d_STEPS }
end K61
open PySem PySem.W PySem.Calls PyProof.Rows
set_option maxHeartbeats 0 in
theorem K61.holds_of (pure_law : ∀ ns : List Int, ns.length ≤ 63 → ∃ h', K61.m_law [.arg (ns.map TL.T.int)] [] = .ok (.bl true) h') : PySem.Challenge.rw_pairheld_k61_patterns_in_claims.Holds := by
  w_on; o_law
  refine HandSHeadRun.head_any (r := OpenLaw.row PySem.Challenge.rw_pairheld_k61_patterns_in_claims) (q := view (OpenLaw.row PySem.Challenge.rw_pairheld_k61_patterns_in_claims).prog [62]) (H := K61.hk) (ob := K61.ob) (M := 8000) (loose := K61.lo) (d := HandSHeadRun.topDef (OpenLaw.row PySem.Challenge.rw_pairheld_k61_patterns_in_claims).prog 62) (kwd := []) K61.ob_eq
    (by kernel_rfl) (fun s => by kernel_rfl) K61.run (by kernel_rfl) (by kernel_rfl) (by kernel_rfl) (by rfl) (by first | assumption | decide +kernel) (by decide +kernel) ⟨rfl, rfl, rfl, rfl, rfl, by decide +kernel⟩ ?hw ?hc
  case hw => w_witness2
  case hc =>
    refine TL.walkQ (l := PySem.Challenge.rw_pairheld_k61_patterns_in_claims) (n := 63) (k := 8) (x := "_law_script") rfl (by decide) (by kernel_rfl) ⟨rfl, by decide, by decide⟩ ?_
    rintro w mg fa h ⟨K, KX, c⟩ G named
    have e1 : (HandSHeadRun.topDef (OpenLaw.row PySem.Challenge.rw_pairheld_k61_patterns_in_claims).prog 62).name = ("law" : PySem.Str) := by kernel_rfl
    have g := K61.gs KX G c
    have e2 : fa = He.ga K "law" := by
      rw [e1, g.f_law] at named
      cases named
      rfl
    subst e2
    have b := L2.FunD.bindsA (ps := ["_law_script"]) g.F_law fun _ _ _ _ _ _ us hl => match us, hl with | [_], _ => rfl
    exact ⟨K, _, K61.wd K, K61.m_law, KX, rfl, fun s v => b s [v] rfl, pure_law, fun base _ _ => K61.ok_law g⟩

theorem PySem.Challenge.cw_pairheld_k61_patterns_in_claims_holds : PySem.Challenge.rw_pairheld_k61_patterns_in_claims.Holds := by
  exact K61.holds_of K61.pure_law
