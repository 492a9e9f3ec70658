import PyProof.Rows.All
import Wide.All
import OpenK.AllK
import Wide.FinOn
import HandS.ForMost
import HandS.Defaults
import HandS.Property
import HandS.Zip
import HandS.Deep
import HandS.IsInst
import HandS.Conv
import HandS.FStr
import HandS.WideBits
import HandS.HeadEnd
import HandS.HeadHook1
import HandS.HeadHook2
import HandS.HeadHook3
import HandS.HeadHook4
import HandS.Head0
import HandS.Head1
import HandS.Head2
import KE.SortData
import KE.SortKeyHeap
import KE.DataFind
import KE.DataCmp
import KE.Datum
import KE.DatumIndex
import KE.KeyNested
import KE.KDictKeyed
import HandS.Lambda
import HandS.EndTab
import HandS.TupAny
import HandS.Text
import HandS.Style
import HandS.Star
import KE.KDictWalk
import HandS.MakeKwOnly
import PyProof.ReprRoads
import PyProof.FitsInt
import PyProof.StrLawsRepr
import HandS.TupSets
import HandS.TryOnly
import KE.GoesMore
import HandS.Wide
import KE.KCallOwn
import PyProof.InstNe
import HandS.RaiseMore
import HandS.Small
import PyProof.TupleOfSeq
import KE.GoesNew
import HandS.ExcInit
import HandS.ExcOwn
import KE.DataMinMax
import KE.KDictSum
import HandS.SetFor
import HandS.Strs
import HandS.DictComp
import HandS.WordsDict
import HandS.More
import HandS.Dict
import PyProof.SumAny
import PyProof.Rows.SeqMore
import KE.KDictDisplayH
import KE.DataAny
import KE.KIndexOf
import HandS.Iter
import PyProof.StrLawsIn
import PyProof.Rows.StrSplitAre
import PyProof.Rows.StrItems
import PyProof.Rows.StrSplitCount
import PyProof.Rows.RegReprOcc
import PySem.Challenge.RW_pairheld_k54_whole_weights_judged
set_option Elab.async false
set_option linter.all false
set_option maxRecDepth 100000
set_option maxHeartbeats 4000000
namespace TL
open PySem PySem.Spec L2
abbrev St := L2.St
inductive T where
  | non | bl (b : Bool) | int (i : Int) | str (s : Str)
  | tup (ts : List T) | lst (ts : List T)
  | obj (c : Nat) (fs : List T)
  | ref (n : Nat)
  | arg (ts : List T)
  | tpx (ts : List T)
  | exc (a : Addr) (d : Option Addr) (ns : List Str) (c : Nat) (fs : List T)
  deriving Inhabited
inductive VO where
  | lst (ts : List T)
  | ins (c : Nat) (fs : List T)
  | dct (kvs : List (T × T))
  | dcT (kvs : List (List Key × T))
  | dcF (kvs : List (T × T))
  | dcN (kvs : List (T × T))
  | tab (q : Str)
  deriving Inhabited
abbrev VH := List VO
inductive Res (α : Type) where
  | ok (a : α) (h : VH)
  | bad
inductive Out where
  | nx (τ : List (Option T)) (h : VH)
  | rt (t : T) (h : VH)
  | bk (τ : List (Option T)) (h : VH)
  | ct (τ : List (Option T)) (h : VH)
  | bad
abbrev TS_ := List (Option T)
abbrev ME := TS_ → VH → Res T
abbrev MA := TS_ → VH → Res (List T)
abbrev MB := TS_ → VH → Res Bool
abbrev MS := TS_ → VH → Out
structure Rh where
  ix : List Addr
  bn : List Addr
def Rh.out (ρ : Rh) (a : Addr) : Prop := a ∉ ρ.ix ∧ a ∉ ρ.bn
def Rh.push (ρ : Rh) (p : Addr) : Rh := ⟨ρ.ix ++ [p], ρ.bn⟩
def Rh.ban (ρ : Rh) (p : Addr) : Rh := ⟨ρ.ix, p :: ρ.bn⟩
structure Wd where
  K : PySem.W.Frag
  cm : Nat → Option Addr
  fn : Nat → List Str
  w : World
  /-- the tables of code objects, by the lambdas' name -/
  tb : Str → Option Addr
def KL (K : PySem.W.Frag) (a : Addr) (xs : List V) : Prop := ∃ (o : Obj) (its : Array Value) (n : Nat), K.lookup a = some o ∧ o.cls = .type "list" ∧ o.dict = none ∧ o.data = .seq its n ∧ its.size ≤ sizeLine ∧ Vals xs its.toList
def KT (K : PySem.W.Frag) (a : Addr) (xs : List V) : Prop := ∃ (o : Obj) (its : Array Value) (n : Nat), K.lookup a = some o ∧ o.cls = .type "tuple" ∧ o.data = .seq its n ∧ its.size ≤ sizeLine ∧ Vals xs its.toList
def LstAt (Y : Wd) (ρ : Rh) (H : Hp) (a : Addr) (xs : List V) : Prop := xs.length ≤ sizeLine ∧ ρ.out a ∧ H a = some (.lst xs)
def ArgAt (Y : Wd) (ρ : Rh) (H : Hp) (a : Addr) (xs : List V) : Prop := xs.length ≤ sizeLine ∧ ((ρ.out a ∧ Rd H a (.lst xs)) ∨ KL Y.K a xs)
def TupAt (Y : Wd) (ρ : Rh) (H : Hp) (a : Addr) (xs : List V) : Prop := xs.length ≤ sizeLine ∧ ((ρ.out a ∧ Rd H a (.tup xs)) ∨ KT Y.K a xs)
def TpxAt (ρ : Rh) (H : Hp) (a : Addr) (xs : List V) : Prop := xs.length ≤ sizeLine ∧ ρ.out a ∧ ∃ o : Obj, o.dict = none ∧ o.cls = .type "tuple" ∧ H a = some (.frz o (.tup xs))
def XdAt (ρ : Rh) (H : Hp) : Option Addr → List (Str × V) → Prop
  | some d, vfs => ρ.out d ∧ H d = some (.xd vfs)
  | none, vfs => vfs = []
theorem XdAt.to {ρ ρ' : Rh} {H H' : Hp} {d : Option Addr} {vfs : List (Str × V)} (h : XdAt ρ H d vfs) (out : ∀ x fs, ρ.out x → H x = some (.xd fs) → ρ'.out x) (hk : ∀ x fs, ρ.out x → H x = some (.xd fs) → H' x = some (.xd fs)) : XdAt ρ' H' d vfs := by
  cases d with
  | none => exact h
  | some d => exact ⟨out _ _ h.1 h.2, hk _ _ h.1 h.2⟩
theorem LstAt.sq {Y : Wd} {ρ : Rh} {H : Hp} {a : Addr} {xs : List V} (h : LstAt Y ρ H a xs) : SqL Y.K H a xs := .inl (.inl h.2.2)
theorem ArgAt.sq {Y : Wd} {ρ : Rh} {H : Hp} {a : Addr} {xs : List V} (h : ArgAt Y ρ H a xs) : SqL Y.K H a xs := h.2.elim (fun z => .inl z.2) .inr
theorem TupAt.sq {Y : Wd} {ρ : Rh} {H : Hp} {a : Addr} {xs : List V} (h : TupAt Y ρ H a xs) : SqT Y.K H a xs := h.2.elim (fun z => .inl z.2) .inr
mutual
inductive Rp (Y : Wd) (ρ : Rh) (H : Hp) : T → V → Prop
  | non : Rp Y ρ H .non .non
  | bl (b : Bool) : Rp Y ρ H (.bl b) (.bl b)
  | int (i : Int) : Rp Y ρ H (.int i) (.int i)
  | str {x : Str} : x.length ≤ 1000000 → Rp Y ρ H (.str x) (.str x)
  | tup {a : Addr} {vs : List V} {ts : List T} : TupAt Y ρ H a vs → Rps Y ρ H ts vs → Rp Y ρ H (.tup ts) (.ref a)
  | lst {a : Addr} {vs : List V} {ts : List T} : LstAt Y ρ H a vs → Rps Y ρ H ts vs → Rp Y ρ H (.lst ts) (.ref a)
  | obj {c : Nat} {a C dx : Addr} {vfs : List (Str × V)} {fs : List T} : Y.cm c = some C → ρ.out a → H a = some (.ins C dx vfs) → vfs.map (·.1) = (Y.fn c).take fs.length → Rps Y ρ H fs (vfs.map (·.2)) → Rp Y ρ H (.obj c fs) (.ref a)
  | ref {n : Nat} {a : Addr} : ρ.ix[n]? = some a → Rp Y ρ H (.ref n) (.ref a)
  | arg {a : Addr} {vs : List V} {ts : List T} : ArgAt Y ρ H a vs → Rps Y ρ H ts vs → Rp Y ρ H (.arg ts) (.ref a)
  | tpx {a : Addr} {vs : List V} {ts : List T} : TpxAt ρ H a vs → Rps Y ρ H ts vs → Rp Y ρ H (.tpx ts) (.ref a)
  | exc {a : Addr} {d : Option Addr} {ns : List Str} {c : Nat} {vfs : List (Str × V)} {fs : List T} : XdAt ρ H d vfs → vfs.map (·.1) = ns → Rps Y ρ H fs (vfs.map (·.2)) → Rp Y ρ H (.exc a d ns c fs) (.ref a)
inductive Rps (Y : Wd) (ρ : Rh) (H : Hp) : List T → List V → Prop
  | nil : Rps Y ρ H [] []
  | cons {t : T} {v : V} {ts : List T} {vs : List V} : Rp Y ρ H t v → Rps Y ρ H ts vs → Rps Y ρ H (t :: ts) (v :: vs)
end
structure EvR (ρ : Rh) (H : Hp) (ρ' : Rh) (H' : Hp) : Prop where
  more : ∃ m, ρ'.ix = ρ.ix ++ m ∧ ∀ p ∈ m, H p = none
  bnr : ∀ a ∈ ρ'.bn, a ∈ ρ.bn ∨ H a = none
  keep : ∀ b o, H b = some o → b ∉ ρ.ix → (∀ ps, o ≠ .tbl ps) → H' b = some o
  there : ∀ b, H b ≠ none → H' b ≠ none
  fz : ∀ b o u, H b = some (.frz o u) → H' b = some (.frz o u)
structure Ev (ρ : Rh) (H : Hp) (ρ' : Rh) (H' : Hp) : Prop extends EvR ρ H ρ' H' where
  bn : ρ'.bn = ρ.bn
theorem Ev.mk' {ρ ρ' : Rh} {H H' : Hp} (more : ∃ m, ρ'.ix = ρ.ix ++ m ∧ ∀ p ∈ m, H p = none) (bn : ρ'.bn = ρ.bn) (keep : ∀ b o, H b = some o → b ∉ ρ.ix → (∀ ps, o ≠ .tbl ps) → H' b = some o) (there : ∀ b, H b ≠ none → H' b ≠ none) (fz : ∀ b o u, H b = some (.frz o u) → H' b = some (.frz o u)) : Ev ρ H ρ' H' :=
  ⟨⟨more, fun a ha => .inl (bn ▸ ha), keep, there, fz⟩, bn⟩
theorem Ev.refl {ρ : Rh} {H : Hp} : Ev ρ H ρ H := .mk' ⟨[], by simp⟩ rfl (fun _ _ e _ _ => e) (fun _ e => e) (fun _ _ _ e => e)
theorem EvR.nix {ρ ρ' : Rh} {H H' : Hp} (e : EvR ρ H ρ' H') {a : Addr} (h : a ∉ ρ.ix) (ha : H a ≠ none) : a ∉ ρ'.ix := by
  obtain ⟨m, em, hm⟩ := e.more
  intro z
  rw [em] at z
  rcases List.mem_append.mp z with z | z
  · exact h z
  · exact ha (hm a z)
theorem EvR.notin {ρ ρ' : Rh} {H H' : Hp} (e : EvR ρ H ρ' H') {a : Addr} (h : ρ.out a) (ha : H a ≠ none) : ρ'.out a := ⟨e.nix h.1 ha, fun z => (e.bnr a z).elim h.2 ha⟩
theorem EvR.get {ρ ρ' : Rh} {H H' : Hp} (e : EvR ρ H ρ' H') {n : Nat} {a : Addr} (h : ρ.ix[n]? = some a) : ρ'.ix[n]? = some a := by
  obtain ⟨m, em, hm⟩ := e.more
  rw [em, List.getElem?_append_left (List.getElem?_eq_some_iff.mp h).1]
  exact h
theorem EvR.fresh {ρ ρ' : Rh} {H H' : Hp} (e : EvR ρ H ρ' H') {p : Addr} (h : H' p = none) : H p = none := by
  cases q : H p with
  | none => rfl
  | some o => exact absurd h (e.there p (by rw [q]; simp))
theorem EvR.trans {ρ ρ1 ρ2 : Rh} {H H1 H2 : Hp} (a : EvR ρ H ρ1 H1) (b : EvR ρ1 H1 ρ2 H2) : EvR ρ H ρ2 H2 := by
  refine ⟨?_, fun c hc => (b.bnr c hc).elim (a.bnr c) (fun z => .inr (a.fresh z)), fun c o e n nt => b.keep c o (a.keep c o e n nt) (a.nix n (by rw [e]; simp)) nt, fun c e => b.there c (a.there c e), fun c o u e => b.fz c o u (a.fz c o u e)⟩
  obtain ⟨m1, e1, h1⟩ := a.more
  obtain ⟨m2, e2, h2⟩ := b.more
  refine ⟨m1 ++ m2, by rw [e2, e1, List.append_assoc], fun p hp => ?_⟩
  rcases List.mem_append.mp hp with z | z
  · exact h1 p z
  · exact a.fresh (h2 p z)
theorem Ev.trans {ρ ρ1 ρ2 : Rh} {H H1 H2 : Hp} (a : Ev ρ H ρ1 H1) (b : Ev ρ1 H1 ρ2 H2) : Ev ρ H ρ2 H2 := ⟨a.toEvR.trans b.toEvR, b.bn.trans a.bn⟩
theorem EvR.ban {ρ ρ' : Rh} {H H' : Hp} (e : EvR ρ H ρ' H') {p : Addr} (h : H p = none) : EvR ρ H (ρ'.ban p) H' := ⟨e.more, fun a ha => (List.mem_cons.mp ha).elim (fun z => .inr (z ▸ h)) (e.bnr a), e.keep, e.there, e.fz⟩
theorem Ev.new {ρ : Rh} {H : Hp} {p : Addr} {o : HO} (h : H p = none) : Ev ρ H ρ (upd H p o) :=
  .mk' ⟨[], by simp⟩ rfl (fun b u e _ _ => by rw [upd_ne (ne_of_none e h)]; exact e) (fun b e => by
    by_cases z : b = p
    · rw [z, upd_same]; simp
    · rw [upd_ne z]; exact e) (fun b q u e => by rw [upd_ne (ne_of_none e h)]; exact e)
theorem Ev.newρ {ρ : Rh} {H : Hp} {p : Addr} {o : HO} (h : H p = none) : Ev ρ H (ρ.push p) (upd H p o) :=
  .mk' ⟨[p], rfl, fun q hq => by rw [List.mem_singleton.mp hq]; exact h⟩ rfl (Ev.new (ρ := ρ) h).keep (Ev.new (ρ := ρ) h).there (Ev.new (ρ := ρ) h).fz
theorem Ev.write {ρ : Rh} {H : Hp} {p : Addr} {o : HO} (h : p ∈ ρ.ix) (nf : ∀ q u, H p ≠ some (.frz q u)) : Ev ρ H ρ (upd H p o) :=
  .mk' ⟨[], by simp⟩ rfl (fun b u e n _ => by rw [upd_ne (fun z => n (by rw [z]; exact h))]; exact e) (fun b e => by
    by_cases z : b = p
    · rw [z, upd_same]; simp
    · rw [upd_ne z]; exact e) (fun b q u e => by rw [upd_ne (fun z : b = p => nf q u (by rw [← z]; exact e))]; exact e)
theorem Rd.some {H : Hp} {a : Addr} {u : HO} (r : Rd H a u) : H a ≠ none := by
  rcases r with r | ⟨o, r⟩ <;> rw [r] <;> simp
theorem Rd.ev {ρ ρ' : Rh} {H H' : Hp} (e : EvR ρ H ρ' H') {a : Addr} {u : HO} (h : ρ.out a) (r : Rd H a u) (nt : ∀ ps, u ≠ .tbl ps := by intro _ z; cases z) : ρ'.out a ∧ Rd H' a u := by
  refine ⟨e.notin h (Rd.some r), ?_⟩
  rcases r with r | ⟨o, r⟩
  · exact .inl (e.keep _ _ r h.1 nt)
  · exact .inr ⟨o, e.keep _ _ r h.1 (fun _ z => by cases z)⟩
theorem LstAt.ev {Y : Wd} {ρ ρ' : Rh} {H H' : Hp} (e : EvR ρ H ρ' H') {a : Addr} {xs : List V} (h : LstAt Y ρ H a xs) : LstAt Y ρ' H' a xs :=
  ⟨h.1, e.notin h.2.1 (by rw [h.2.2]; simp), e.keep _ _ h.2.2 h.2.1.1 (fun _ z => by cases z)⟩
theorem ArgAt.ev {Y : Wd} {ρ ρ' : Rh} {H H' : Hp} (e : EvR ρ H ρ' H') {a : Addr} {xs : List V} (h : ArgAt Y ρ H a xs) : ArgAt Y ρ' H' a xs :=
  ⟨h.1, h.2.elim (fun z => .inl (Rd.ev e z.1 z.2)) .inr⟩
theorem TupAt.ev {Y : Wd} {ρ ρ' : Rh} {H H' : Hp} (e : EvR ρ H ρ' H') {a : Addr} {xs : List V} (h : TupAt Y ρ H a xs) : TupAt Y ρ' H' a xs :=
  ⟨h.1, h.2.elim (fun z => .inl (Rd.ev e z.1 z.2)) .inr⟩
theorem TpxAt.ev {ρ ρ' : Rh} {H H' : Hp} (e : EvR ρ H ρ' H') {a : Addr} {xs : List V} (h : TpxAt ρ H a xs) : TpxAt ρ' H' a xs := by
  obtain ⟨h1, h2, o, hd, hc, h3⟩ := h
  exact ⟨h1, e.notin h2 (by rw [h3]; simp), o, hd, hc, e.keep _ _ h3 h2.1 (fun _ z => by cases z)⟩
theorem TpxAt.to {ρ ρ' : Rh} {H H' : Hp} {a : Addr} {xs : List V} (h : TpxAt ρ H a xs) (out : ρ.out a → ρ'.out a) (hk : ρ.out a → H a ≠ none → H' a = H a) : TpxAt ρ' H' a xs := by
  obtain ⟨h1, h2, o, hd, hc, h3⟩ := h
  exact ⟨h1, out h2, o, hd, hc, (hk h2 (by rw [h3]; simp)).trans h3⟩
theorem TpxAt.tup {Y : Wd} {ρ : Rh} {H : Hp} {a : Addr} {xs : List V} (h : TpxAt ρ H a xs) : TupAt Y ρ H a xs := by
  obtain ⟨h1, h2, o, hd, hc, h3⟩ := h
  exact ⟨h1, .inl ⟨h2, .inr ⟨o, h3⟩⟩⟩
mutual
theorem Rp.ev {Y : Wd} {ρ ρ' : Rh} {H H' : Hp} (e : EvR ρ H ρ' H') : ∀ {t : T} {v : V}, Rp Y ρ H t v → Rp Y ρ' H' t v
  | _, _, .non => .non
  | _, _, .bl b => .bl b
  | _, _, .int i => .int i
  | _, _, .str h => .str h
  | _, _, .tup h r => .tup (h.ev e) (r.ev e)
  | _, _, .arg h r => .arg (h.ev e) (r.ev e)
  | _, _, .tpx h r => .tpx (h.ev e) (r.ev e)
  | _, _, .exc h nm r => .exc (h.to (fun _ _ o z => e.notin o (by rw [z]; simp)) fun _ _ o z => e.keep _ _ z o.1 (fun _ z => by cases z)) nm (r.ev e)
  | _, _, .lst h r => .lst (h.ev e) (r.ev e)
  | _, _, .obj c n h nm r => .obj c (e.notin n (by rw [h]; simp)) (e.keep _ _ h n.1 (fun _ z => by cases z)) nm (r.ev e)
  | _, _, .ref h => .ref (e.get h)
theorem Rps.ev {Y : Wd} {ρ ρ' : Rh} {H H' : Hp} (e : EvR ρ H ρ' H') : ∀ {ts : List T} {vs : List V}, Rps Y ρ H ts vs → Rps Y ρ' H' ts vs
  | _, _, .nil => .nil
  | _, _, .cons a b => .cons (a.ev e) (b.ev e)
end
theorem Rps.length {Y : Wd} {ρ : Rh} {H : Hp} : ∀ {ts : List T} {vs : List V}, Rps Y ρ H ts vs → vs.length = ts.length
  | _, _, .nil => rfl
  | _, _, .cons _ b => by simp [b.length]
theorem Rps.get {Y : Wd} {ρ : Rh} {H : Hp} : ∀ {ts : List T} {vs : List V} {i : Nat} {t : T}, Rps Y ρ H ts vs → ts[i]? = some t → ∃ v, vs[i]? = some v ∧ Rp Y ρ H t v
  | _, _, _, _, .nil, e => by simp at e
  | _, _, 0, _, .cons a _, e => by simp at e; subst e; exact ⟨_, rfl, a⟩
  | _, _, i + 1, _, .cons _ b, e => by simpa using b.get (i := i) (by simpa using e)
theorem Rps.append {Y : Wd} {ρ : Rh} {H : Hp} : ∀ {ts us : List T} {vs ws : List V}, Rps Y ρ H ts vs → Rps Y ρ H us ws → Rps Y ρ H (ts ++ us) (vs ++ ws)
  | _, _, _, _, .nil, b => b
  | _, _, _, _, .cons a c, b => .cons a (c.append b)
theorem Rps.take {Y : Wd} {ρ : Rh} {H : Hp} (n : Nat) : ∀ {ts : List T} {vs : List V}, Rps Y ρ H ts vs → Rps Y ρ H (ts.take n) (vs.take n)
  | _, _, .nil => by simp; exact .nil
  | _, _, .cons a b => by
    cases n with
    | zero => exact .nil
    | succ n => exact .cons a (b.take n)
theorem Rps.drop {Y : Wd} {ρ : Rh} {H : Hp} (n : Nat) : ∀ {ts : List T} {vs : List V}, Rps Y ρ H ts vs → Rps Y ρ H (ts.drop n) (vs.drop n)
  | _, _, .nil => by simp; exact .nil
  | _, _, .cons a b => by
    cases n with
    | zero => exact .cons a b
    | succ n => exact b.drop n
theorem Rps.set {Y : Wd} {ρ : Rh} {H : Hp} {t : T} {v : V} (r : Rp Y ρ H t v) : ∀ {ts : List T} {vs : List V} (i : Nat), Rps Y ρ H ts vs → Rps Y ρ H (ts.set i t) (vs.set i v)
  | _, _, _, .nil => .nil
  | _, _, 0, .cons _ b => .cons r b
  | _, _, i + 1, .cons a b => .cons a (Rps.set r i b)
theorem Rps.snoc {Y : Wd} {ρ : Rh} {H : Hp} {ts : List T} {vs : List V} {t : T} {v : V} (a : Rps Y ρ H ts vs) (b : Rp Y ρ H t v) : Rps Y ρ H (ts ++ [t]) (vs ++ [v]) := a.append (.cons b .nil)
def nkT : T → Option NestedKey
  | .non => some .none
  | .bl b => some (.num (if b = true then 1 else 0))
  | .int i => some (.num i)
  | .str x => some (.text x)
  | .tup ts => (nkTs ts).map .tup
  | _ => none
where nkTs : List T → Option (List NestedKey)
  | [] => some []
  | t :: ts => match nkT t, nkTs ts with
    | some k, some ks => some (k :: ks)
    | _, _ => none
def NestObj (w : World) (a : Addr) (xs : List (NestedKey × Addr × V)) (h : Heap) : Prop := xs.length ≤ sizeLine ∧ (a == sysModules) = false ∧ ∃ ys : List (NestedKey × Addr × Value), Paired (fun (p : NestedKey × Addr × V) (q : NestedKey × Addr × Value) => p.1 = q.1 ∧ p.2.1 = q.2.1 ∧ RelV p.2.2 q.2.2) xs ys ∧
  ∃ o es ep, h.get? a = some o ∧ o.ExactDict ∧ o.data = .dict es ep ∧ es.toList = ys.map (fun y => ({ hash := y.1.hash w, key := .ref y.2.1, val := y.2.2 } : DictEntry)) ∧ (ys.map (·.1)).Nodup
def CdAt (ρ : Rh) (H : Hp) (q : Str) (cv : Value) : Prop := ∃ c, cv = .ref c ∧ ρ.out c ∧ H c = some (LamX.CodeO c q)
def TbAt (ρ : Rh) (H : Hp) (a : Addr) (q : Str) : Prop := ∃ ps : Array Value, H a = some (.tbl ps) ∧ TriplesOk ps.toList ∧ ∀ (pos : Pos) (cv : Value), codeAmong pos ps.toList = some cv → CdAt ρ H q cv
theorem TbAt.to {ρ ρ' : Rh} {H H' : Hp} {a a' : Addr} {q : Str} (t : TbAt ρ H a q) (s : H' a' = H a) (k : ∀ c, ρ.out c → H c = some (LamX.CodeO c q) → ρ'.out c ∧ H' c = some (LamX.CodeO c q)) : TbAt ρ' H' a' q := by
  obtain ⟨ps, h1, h2, h3⟩ := t
  refine ⟨ps, s.trans h1, h2, fun pos cv hc => ?_⟩
  obtain ⟨c, e, o, hc⟩ := h3 pos cv hc
  obtain ⟨o2, h⟩ := k c o hc
  exact ⟨c, e, o2, h⟩
def OR (Y : Wd) (ρ : Rh) (H : Hp) (a : Addr) : VO → Prop
  | .lst ts => ∃ vs, H a = some (.lst vs) ∧ vs.length ≤ sizeLine ∧ Rps Y ρ H ts vs
  | .ins c fs => ∃ C dx vfs, Y.cm c = some C ∧ H a = some (.ins C dx vfs) ∧ vfs.map (·.1) = (Y.fn c).take fs.length ∧ Rps Y ρ H fs (vfs.map (·.2))
  | .dct kvs => ∃ vkvs : List (Key × V), H a = some (.dK vkvs) ∧ Rps Y ρ H (kvs.map (·.1)) (vkvs.map fun q => kV q.1) ∧ Rps Y ρ H (kvs.map (·.2)) (vkvs.map (·.2))
  | .dcT kvs => ∃ vkvs : List (List Key × V), H a = some (.dT vkvs) ∧ vkvs.map (·.1) = kvs.map (·.1) ∧ Rps Y ρ H (kvs.map (·.2)) (vkvs.map (·.2))
  | .dcF kvs => ∃ (z : Obj) (vkvs : List (Key × V)), H a = some (.frz z (.dK vkvs)) ∧ Rps Y ρ H (kvs.map (·.1)) (vkvs.map fun q => kV q.1) ∧ Rps Y ρ H (kvs.map (·.2)) (vkvs.map (·.2))
  | .dcN kvs => ∃ xs : List (NestedKey × Addr × V), H a = some (.ext (NestObj Y.w a xs)) ∧ (nkT.nkTs (kvs.map (·.1)) = some (xs.map (·.1)) ∧ ∀ x ∈ xs, x.1.depth ≤ 8) ∧ Rps Y ρ H (kvs.map (·.1)) (xs.map fun x => V.ref x.2.1) ∧ Rps Y ρ H (kvs.map (·.2)) (xs.map fun x => x.2.2)
  | .tab q => Y.tb q = some a ∧ TbAt ρ H a q
structure HR (Y : Wd) (ρ : Rh) (H : Hp) (h : VH) : Prop where
  len : ρ.ix.length = h.length
  nd : ρ.ix.Nodup
  bt : ∀ a ∈ ρ.bn, H a ≠ none ∧ a ∉ ρ.ix
  bl : ∀ a ∈ ρ.bn, ∀ xs, H a ≠ some (.tup xs)
  at_ : ∀ (n : Nat) (o : VO) (a : Addr), h[n]? = some o → ρ.ix[n]? = some a → OR Y ρ H a o
  /-- the tables of code objects stand beside the small heap -/
  tb : ∀ (q : Str) (a : Addr), Y.tb q = some a → ρ.out a ∧ TbAt ρ H a q
theorem TbAt.some {ρ : Rh} {H : Hp} {a : Addr} {q : Str} (t : TbAt ρ H a q) : H a ≠ none := by
  obtain ⟨ps, e, _⟩ := t
  rw [e]; simp
theorem HR.tbTo {Y : Wd} {ρ ρ' : Rh} {H H' : Hp} {h : VH} (r : HR Y ρ H h) (out : ∀ c, ρ.out c → H c ≠ none → ρ'.out c) (same : ∀ c, ρ.out c → H c ≠ none → H' c = H c) (q : Str) (a : Addr) (e : Y.tb q = some a) : ρ'.out a ∧ TbAt ρ' H' a q := by
  obtain ⟨o, t⟩ := r.tb q a e
  refine ⟨out a o t.some, t.to (same a o t.some) fun c oc hc => ?_⟩
  have n : H c ≠ none := by rw [hc]; simp
  exact ⟨out c oc n, (same c oc n).trans hc⟩
theorem OR.same {Y : Wd} {ρ ρ' : Rh} {H H' : Hp} (e : EvR ρ H ρ' H') {a : Addr} {o : VO} (s : H' a = H a) (r : OR Y ρ H a o) : OR Y ρ' H' a o := by
  cases o with
  | lst ts => obtain ⟨vs, h1, hz, h2⟩ := r; exact ⟨vs, s.trans h1, hz, h2.ev e⟩
  | ins c fs => obtain ⟨C, dx, vfs, hc, h1, hn, h2⟩ := r; exact ⟨C, dx, vfs, hc, s.trans h1, hn, h2.ev e⟩
  | dct kvs => obtain ⟨vk, h1, h2, h3⟩ := r; exact ⟨vk, s.trans h1, h2.ev e, h3.ev e⟩
  | dcT kvs => obtain ⟨vk, h1, h2, h3⟩ := r; exact ⟨vk, s.trans h1, h2, h3.ev e⟩
  | dcF kvs => obtain ⟨z, vk, h1, h2, h3⟩ := r; exact ⟨z, vk, s.trans h1, h2.ev e, h3.ev e⟩
  | dcN kvs => obtain ⟨xs, h1, h0, h2, h3⟩ := r; exact ⟨xs, s.trans h1, h0, h2.ev e, h3.ev e⟩
  | tab q => exact ⟨r.1, TbAt.to r.2 s fun c o z => ⟨e.notin o (by rw [z]; simp), e.keep _ _ z o.1 (LamX.codeO_ne ·)⟩⟩
theorem OR.some {Y : Wd} {ρ : Rh} {H : Hp} {a : Addr} {o : VO} (r : OR Y ρ H a o) : H a ≠ none := by
  cases o with
  | lst ts => obtain ⟨vs, h1, h2⟩ := r; rw [h1]; simp
  | ins c fs => obtain ⟨C, dx, vfs, hc, h1, hn, h2⟩ := r; rw [h1]; simp
  | dct kvs => obtain ⟨vk, h1, h2, h3⟩ := r; rw [h1]; simp
  | dcT kvs => obtain ⟨vk, h1, h2, h3⟩ := r; rw [h1]; simp
  | dcF kvs => obtain ⟨z, vk, h1, h2, h3⟩ := r; rw [h1]; simp
  | dcN kvs => obtain ⟨xs, h1, _⟩ := r; rw [h1]; simp
  | tab q => obtain ⟨_, ps, h1, _⟩ := r; rw [h1]; simp
theorem HR.there {Y : Wd} {ρ : Rh} {H : Hp} {h : VH} (r : HR Y ρ H h) {a : Addr} (m : a ∈ ρ.ix) : H a ≠ none := by
  obtain ⟨n, hn, e⟩ := List.getElem_of_mem m
  have hh : n < h.length := by rw [← r.len]; exact hn
  exact (r.at_ n h[n] a (List.getElem?_eq_getElem hh) (by rw [List.getElem?_eq_getElem hn, e])).some
theorem HR.outof {Y : Wd} {ρ : Rh} {H : Hp} {h : VH} (r : HR Y ρ H h) {a : Addr} (m : H a = none) : ρ.out a := ⟨fun z => r.there z m, fun z => (r.bt a z).1 m⟩
theorem HR.grow {Y : Wd} {ρ : Rh} {H H' : Hp} {h : VH} (r : HR Y ρ H h) (k : ∀ b o, H b = some o → H' b = some o) : HR Y ρ H' h := by
  have th : ∀ b, H b ≠ none → H' b ≠ none := fun b z => by
    cases q : H b with
    | none => exact absurd q z
    | some o => rw [k b o q]; simp
  have e : EvR ρ H ρ H' := ⟨⟨[], by simp⟩, fun a ha => .inl ha, fun b o z _ _ => k b o z, th, fun b q u z => k b _ z⟩
  refine ⟨r.len, r.nd, fun a ha => ⟨th a (r.bt a ha).1, (r.bt a ha).2⟩, fun a ha xs z => ?_, fun n o a h1 h2 => (r.at_ n o a h1 h2).same e ?_, r.tbTo (fun _ o _ => o) fun c _ n => ?_⟩
  rotate_right
  · cases q : H c with
    | none => exact absurd q n
    | some o => exact k c o q
  · cases q : H a with
    | none => exact (r.bt a ha).1 q
    | some o =>
      rw [k a o q] at z
      cases z
      exact r.bl a ha xs q
  have z := r.there (List.mem_of_getElem? h2)
  cases q : H a with
  | none => exact absurd q z
  | some o => rw [k a o q]
theorem HR.new {Y : Wd} {ρ : Rh} {H : Hp} {h : VH} (r : HR Y ρ H h) {p : Addr} {o : HO} (hp : H p = none) : HR Y ρ (upd H p o) h := r.grow fun b u e => by rw [upd_ne (ne_of_none e hp)]; exact e
theorem HR.push {Y : Wd} {ρ : Rh} {H : Hp} {h : VH} (r : HR Y ρ H h) {p : Addr} {o : HO} {vo : VO} (hp : H p = none) (ho : OR Y (ρ.push p) (upd H p o) p vo) : HR Y (ρ.push p) (upd H p o) (h ++ [vo]) := by
  obtain ⟨np, nb⟩ := r.outof hp
  refine ⟨by simp [Rh.push, r.len], ?_, fun a ha => ?_, fun a ha xs z => r.bl a ha xs (by rw [upd_ne (fun e => nb (by rw [← e]; exact ha))] at z; exact z), fun n o' a h1 h2 => ?_, r.tbTo (fun c o n => ⟨fun z => (List.mem_append.mp (show c ∈ ρ.ix ++ [p] from z)).elim o.1 fun y => n ((List.mem_singleton.mp y).symm ▸ hp), o.2⟩) fun c _ n => upd_ne fun z => n (z.symm ▸ hp)⟩
  · show (ρ.ix ++ [p]).Nodup
    rw [List.nodup_append]
    exact ⟨r.nd, by simp, fun a ha b hb z => by rw [List.mem_singleton.mp hb] at z; exact np (z ▸ ha)⟩
  · have hne : a ≠ p := fun z => nb (by rw [← z]; exact ha)
    refine ⟨by rw [upd_ne hne]; exact (r.bt a ha).1, fun z => ?_⟩
    rcases List.mem_append.mp (show a ∈ ρ.ix ++ [p] from z) with z | z
    · exact (r.bt a ha).2 z
    · exact hne (List.mem_singleton.mp z)
  · have h2 : (ρ.ix ++ [p])[n]? = some a := h2
    by_cases hn : n < h.length
    · rw [List.getElem?_append_left hn] at h1
      rw [List.getElem?_append_left (by rw [r.len]; exact hn)] at h2
      refine (r.at_ n o' a h1 h2).same (Ev.newρ hp).toEvR ?_
      exact upd_ne (fun z => np (by rw [← z]; exact List.mem_of_getElem? h2))
    · have e : n = h.length := by
        have := (List.getElem?_eq_some_iff.mp h1).1
        simp at this; omega
      subst e
      rw [List.getElem?_append_right (Nat.le_refl _)] at h1
      rw [List.getElem?_append_right (by rw [r.len]; exact Nat.le_refl _), r.len] at h2
      simp at h1 h2
      subst h1 h2
      exact ho
theorem HR.write {Y : Wd} {ρ : Rh} {H : Hp} {h : VH} (r : HR Y ρ H h) {n : Nat} {p : Addr} {o : HO} {vo : VO} (hp : ρ.ix[n]? = some p) (nf : ∀ q u, H p ≠ some (.frz q u)) (ho : OR Y ρ (upd H p o) p vo) : HR Y ρ (upd H p o) (h.set n vo) := by
  have mp := List.mem_of_getElem? hp
  refine ⟨by simp [r.len], r.nd, fun a ha => ⟨(Ev.write (o := o) mp nf).there a (r.bt a ha).1, (r.bt a ha).2⟩, fun a ha xs z => r.bl a ha xs (by rw [upd_ne (fun e => (r.bt a ha).2 (by rw [e]; exact mp))] at z; exact z), fun k o' a h1 h2 => ?_, r.tbTo (fun _ o _ => o) fun c o _ => upd_ne fun z => o.1 (z ▸ mp)⟩
  by_cases hk : k = n
  · subst hk
    have : k < h.length := by
      have := (List.getElem?_eq_some_iff.mp h1).1
      simpa using this
    rw [List.getElem?_set_self this] at h1
    cases h1
    rw [hp] at h2; cases h2
    exact ho
  · rw [List.getElem?_set_ne (Ne.symm hk)] at h1
    refine (r.at_ k o' a h1 h2).same (Ev.write mp nf).toEvR ?_
    refine upd_ne fun z => hk ?_
    subst z
    obtain ⟨a1, e1⟩ := List.getElem?_eq_some_iff.mp hp
    obtain ⟨a2, e2⟩ := List.getElem?_eq_some_iff.mp h2
    exact (List.getElem_inj r.nd).mp (e2.trans e1.symm)
theorem Rh.out_unban {ρ : Rh} {p a : Addr} (h : (ρ.ban p).out a) : ρ.out a := ⟨h.1, fun z => h.2 (List.mem_cons_of_mem _ z)⟩
mutual
theorem Rp.unban {Y : Wd} {ρ : Rh} {H : Hp} {p : Addr} : ∀ {t : T} {v : V}, Rp Y (ρ.ban p) H t v → Rp Y ρ H t v
  | _, _, .non => .non
  | _, _, .bl b => .bl b
  | _, _, .int i => .int i
  | _, _, .str h => .str h
  | _, _, .tup h r => .tup ⟨h.1, h.2.elim (fun z => .inl ⟨Rh.out_unban z.1, z.2⟩) .inr⟩ r.unban
  | _, _, .arg h r => .arg ⟨h.1, h.2.elim (fun z => .inl ⟨Rh.out_unban z.1, z.2⟩) .inr⟩ r.unban
  | _, _, .tpx h r => .tpx (h.to Rh.out_unban fun _ _ => rfl) r.unban
  | _, _, .exc h nm r => .exc (h.to (fun _ _ o _ => Rh.out_unban o) fun _ _ _ z => z) nm r.unban
  | _, _, .lst h r => .lst ⟨h.1, Rh.out_unban h.2.1, h.2.2⟩ r.unban
  | _, _, .obj c n h nm r => .obj c (Rh.out_unban n) h nm r.unban
  | _, _, .ref h => .ref h
theorem Rps.unban {Y : Wd} {ρ : Rh} {H : Hp} {p : Addr} : ∀ {ts : List T} {vs : List V}, Rps Y (ρ.ban p) H ts vs → Rps Y ρ H ts vs
  | _, _, .nil => .nil
  | _, _, .cons a b => .cons a.unban b.unban
end
theorem OR.unban {Y : Wd} {ρ : Rh} {H : Hp} {p a : Addr} {o : VO} (r : OR Y (ρ.ban p) H a o) : OR Y ρ H a o := by
  cases o with
  | lst ts => obtain ⟨vs, h1, hz, h2⟩ := r; exact ⟨vs, h1, hz, h2.unban⟩
  | ins c fs => obtain ⟨C, dx, vfs, hc, h1, hn, h2⟩ := r; exact ⟨C, dx, vfs, hc, h1, hn, h2.unban⟩
  | dct kvs => obtain ⟨vk, h1, h2, h3⟩ := r; exact ⟨vk, h1, h2.unban, h3.unban⟩
  | dcT kvs => obtain ⟨vk, h1, h2, h3⟩ := r; exact ⟨vk, h1, h2, h3.unban⟩
  | dcF kvs => obtain ⟨z, vk, h1, h2, h3⟩ := r; exact ⟨z, vk, h1, h2.unban, h3.unban⟩
  | dcN kvs => obtain ⟨xs, h1, h0, h2, h3⟩ := r; exact ⟨xs, h1, h0, h2.unban, h3.unban⟩
  | tab q => exact ⟨r.1, TbAt.to r.2 rfl fun c o z => ⟨Rh.out_unban o, z⟩⟩
theorem HR.unban {Y : Wd} {ρ : Rh} {H : Hp} {h : VH} {p : Addr} (r : HR Y (ρ.ban p) H h) : HR Y ρ H h := ⟨r.len, r.nd, fun a ha => r.bt a (List.mem_cons_of_mem _ ha), fun a ha => r.bl a (List.mem_cons_of_mem _ ha), fun n o a h1 h2 => (r.at_ n o a h1 h2).unban, r.tbTo (fun _ o _ => Rh.out_unban o) fun _ _ _ => rfl⟩
theorem out_ban {ρ : Rh} {H : Hp} {p a : Addr} (hp : H p = none) (ha : H a ≠ none) (h : ρ.out a) : (ρ.ban p).out a := ⟨h.1, fun z => by
  rcases List.mem_cons.mp z with z | z
  · exact ha (z ▸ hp)
  · exact h.2 z⟩
mutual
theorem Rp.ban {Y : Wd} {ρ : Rh} {H : Hp} {p : Addr} (hp : H p = none) : ∀ {t : T} {v : V}, Rp Y ρ H t v → Rp Y (ρ.ban p) H t v
  | _, _, .non => .non
  | _, _, .bl b => .bl b
  | _, _, .int i => .int i
  | _, _, .str h => .str h
  | _, _, .tup h r => .tup ⟨h.1, h.2.elim (fun z => .inl ⟨out_ban hp (Rd.some z.2) z.1, z.2⟩) .inr⟩ (r.ban hp)
  | _, _, .arg h r => .arg ⟨h.1, h.2.elim (fun z => .inl ⟨out_ban hp (Rd.some z.2) z.1, z.2⟩) .inr⟩ (r.ban hp)
  | _, _, .tpx ⟨l, g, o, hd, hc, h⟩ r => .tpx ⟨l, out_ban hp (by rw [h]; simp) g, o, hd, hc, h⟩ (r.ban hp)
  | _, _, .exc h nm r => .exc (h.to (fun _ _ o z => out_ban hp (by rw [z]; simp) o) fun _ _ _ z => z) nm (r.ban hp)
  | _, _, .lst h r => .lst ⟨h.1, out_ban hp (by rw [h.2.2]; simp) h.2.1, h.2.2⟩ (r.ban hp)
  | _, _, .obj c n h nm r => .obj c (out_ban hp (by rw [h]; simp) n) h nm (r.ban hp)
  | _, _, .ref h => .ref h
theorem Rps.ban {Y : Wd} {ρ : Rh} {H : Hp} {p : Addr} (hp : H p = none) : ∀ {ts : List T} {vs : List V}, Rps Y ρ H ts vs → Rps Y (ρ.ban p) H ts vs
  | _, _, .nil => .nil
  | _, _, .cons a b => .cons (a.ban hp) (b.ban hp)
end
theorem OR.ban {Y : Wd} {ρ : Rh} {H : Hp} {p a : Addr} (hp : H p = none) {o : VO} (r : OR Y ρ H a o) : OR Y (ρ.ban p) H a o := by
  cases o with
  | lst ts => obtain ⟨vs, h1, hz, h2⟩ := r; exact ⟨vs, h1, hz, h2.ban hp⟩
  | ins c fs => obtain ⟨C, dx, vfs, hc, h1, hn, h2⟩ := r; exact ⟨C, dx, vfs, hc, h1, hn, h2.ban hp⟩
  | dct kvs => obtain ⟨vk, h1, h2, h3⟩ := r; exact ⟨vk, h1, h2.ban hp, h3.ban hp⟩
  | dcT kvs => obtain ⟨vk, h1, h2, h3⟩ := r; exact ⟨vk, h1, h2, h3.ban hp⟩
  | dcF kvs => obtain ⟨z, vk, h1, h2, h3⟩ := r; exact ⟨z, vk, h1, h2.ban hp, h3.ban hp⟩
  | dcN kvs => obtain ⟨xs, h1, h0, h2, h3⟩ := r; exact ⟨xs, h1, h0, h2.ban hp, h3.ban hp⟩
  | tab q => exact ⟨r.1, TbAt.to r.2 rfl fun c o z => ⟨out_ban hp (by rw [z]; simp) o, z⟩⟩
theorem out_ne {ρ : Rh} {p a : Addr} (hp : p ∈ ρ.bn) (h : ρ.out a) : a ≠ p := fun z => h.2 (z ▸ hp)
theorem Rd.updb {ρ : Rh} {H : Hp} {p a : Addr} {o u : HO} (hp : p ∈ ρ.bn) (h : ρ.out a) (r : Rd H a u) : Rd (upd H p o) a u := by
  rcases r with r | ⟨q, r⟩
  · exact .inl (by rw [upd_ne (out_ne hp h)]; exact r)
  · exact .inr ⟨q, by rw [upd_ne (out_ne hp h)]; exact r⟩
mutual
theorem Rp.updb {Y : Wd} {ρ : Rh} {H : Hp} {p : Addr} {o : HO} (hp : p ∈ ρ.bn) : ∀ {t : T} {v : V}, Rp Y ρ H t v → Rp Y ρ (upd H p o) t v
  | _, _, .non => .non
  | _, _, .bl b => .bl b
  | _, _, .int i => .int i
  | _, _, .str h => .str h
  | _, _, .tup h r => .tup ⟨h.1, h.2.elim (fun z => .inl ⟨z.1, Rd.updb hp z.1 z.2⟩) .inr⟩ (r.updb hp)
  | _, _, .arg h r => .arg ⟨h.1, h.2.elim (fun z => .inl ⟨z.1, Rd.updb hp z.1 z.2⟩) .inr⟩ (r.updb hp)
  | _, _, .tpx h r => .tpx (h.to id fun z _ => upd_ne (out_ne hp z)) (r.updb hp)
  | _, _, .exc h nm r => .exc (h.to (fun _ _ o _ => o) fun _ _ o z => (upd_ne (out_ne hp o)).trans z) nm (r.updb hp)
  | _, _, .lst h r => .lst ⟨h.1, h.2.1, by rw [upd_ne (out_ne hp h.2.1)]; exact h.2.2⟩ (r.updb hp)
  | _, _, .obj c n h nm r => .obj c n (by rw [upd_ne (out_ne hp n)]; exact h) nm (r.updb hp)
  | _, _, .ref h => .ref h
theorem Rps.updb {Y : Wd} {ρ : Rh} {H : Hp} {p : Addr} {o : HO} (hp : p ∈ ρ.bn) : ∀ {ts : List T} {vs : List V}, Rps Y ρ H ts vs → Rps Y ρ (upd H p o) ts vs
  | _, _, .nil => .nil
  | _, _, .cons a b => .cons (a.updb hp) (b.updb hp)
end
theorem HR.updb {Y : Wd} {ρ : Rh} {H : Hp} {h : VH} {p : Addr} {o : HO} (hp : p ∈ ρ.bn) (r : HR Y ρ H h) (nt : ∀ xs, o ≠ .tup xs := by intro xs z; cases z) : HR Y ρ (upd H p o) h := by
  refine ⟨r.len, r.nd, fun a ha => ⟨?_, (r.bt a ha).2⟩, fun a ha xs q => ?_, fun n vo a h1 h2 => ?_, r.tbTo (fun _ o _ => o) fun c o _ => upd_ne (out_ne hp o)⟩
  · by_cases z : a = p
    · rw [z, upd_same]; simp
    · rw [upd_ne z]; exact (r.bt a ha).1
  · by_cases z : a = p
    · rw [z, upd_same] at q
      exact nt xs (Option.some.inj q)
    · rw [upd_ne z] at q
      exact r.bl a ha xs q
  · have ne : a ≠ p := fun z => (r.bt p hp).2 (by rw [← z]; exact List.mem_of_getElem? h2)
    have q := r.at_ n vo a h1 h2
    cases vo with
    | lst ts => obtain ⟨vs, h1, hz, h2⟩ := q; exact ⟨vs, by rw [upd_ne ne]; exact h1, hz, h2.updb hp⟩
    | ins c fs => obtain ⟨C, dx, vfs, hc, h1, hn, h2⟩ := q; exact ⟨C, dx, vfs, hc, by rw [upd_ne ne]; exact h1, hn, h2.updb hp⟩
    | dct kvs => obtain ⟨vk, h1, h2, h3⟩ := q; exact ⟨vk, by rw [upd_ne ne]; exact h1, h2.updb hp, h3.updb hp⟩
    | dcT kvs => obtain ⟨vk, h1, h2, h3⟩ := q; exact ⟨vk, by rw [upd_ne ne]; exact h1, h2, h3.updb hp⟩
    | dcF kvs => obtain ⟨z, vk, h1, h2, h3⟩ := q; exact ⟨z, vk, by rw [upd_ne ne]; exact h1, h2.updb hp, h3.updb hp⟩
    | dcN kvs => obtain ⟨xs, h1, h0, h2, h3⟩ := q; exact ⟨xs, by rw [upd_ne ne]; exact h1, h0, h2.updb hp, h3.updb hp⟩
    | tab nm => exact ⟨q.1, TbAt.to q.2 (upd_ne ne) fun c o z => ⟨o, by rw [upd_ne (out_ne hp o)]; exact z⟩⟩
theorem HR.begin {Y : Wd} {ρ : Rh} {H : Hp} {h : VH} {p : Addr} {o : HO} (hp : H p = none) (r : HR Y ρ H h) (nt : ∀ xs, o ≠ .tup xs := by intro xs z; cases z) : HR Y (ρ.ban p) (upd H p o) h := by
  have r2 : HR Y ρ (upd H p o) h := r.new hp
  refine ⟨r2.len, r2.nd, fun a ha => ?_, fun a ha xs q => ?_, fun n vo a h1 h2 => ?_, r.tbTo (fun c o n => out_ban hp n o) fun c _ n => upd_ne fun z => n (z.symm ▸ hp)⟩
  · rcases List.mem_cons.mp ha with z | z
    · rw [z, upd_same]
      exact ⟨by simp, (r.outof hp).1⟩
    · exact r2.bt a z
  · rcases List.mem_cons.mp ha with z | z
    · rw [z, upd_same] at q
      exact nt xs (Option.some.inj q)
    · exact r2.bl a z xs q
  · have ne : a ≠ p := fun z => (r.outof hp).1 (by rw [← z]; exact List.mem_of_getElem? h2)
    have q := (r.at_ n vo a h1 h2).ban hp
    have mb : p ∈ (ρ.ban p).bn := List.mem_cons_self
    cases vo with
    | lst ts => obtain ⟨vs, h1, hz, h2⟩ := q; exact ⟨vs, by rw [upd_ne ne]; exact h1, hz, h2.updb mb⟩
    | ins c fs => obtain ⟨C, dx, vfs, hc, h1, hn, h2⟩ := q; exact ⟨C, dx, vfs, hc, by rw [upd_ne ne]; exact h1, hn, h2.updb mb⟩
    | dct kvs => obtain ⟨vk, h1, h2, h3⟩ := q; exact ⟨vk, by rw [upd_ne ne]; exact h1, h2.updb mb, h3.updb mb⟩
    | dcT kvs => obtain ⟨vk, h1, h2, h3⟩ := q; exact ⟨vk, by rw [upd_ne ne]; exact h1, h2, h3.updb mb⟩
    | dcF kvs => obtain ⟨z, vk, h1, h2, h3⟩ := q; exact ⟨z, vk, by rw [upd_ne ne]; exact h1, h2.updb mb, h3.updb mb⟩
    | dcN kvs => obtain ⟨xs, h1, h0, h2, h3⟩ := q; exact ⟨xs, by rw [upd_ne ne]; exact h1, h0, h2.updb mb, h3.updb mb⟩
    | tab nm => exact ⟨q.1, TbAt.to q.2 (upd_ne ne) fun c o z => ⟨o, by rw [upd_ne (out_ne mb o)]; exact z⟩⟩
theorem Rh.out_push {ρ : Rh} {p a : Addr} (z : (ρ.ban p).out a) : (ρ.push p).out a := ⟨fun zz => by
  rcases List.mem_append.mp (show a ∈ ρ.ix ++ [p] from zz) with y | y
  · exact z.1 y
  · exact z.2 (by rw [List.mem_singleton.mp y]; exact List.mem_cons_self), fun zz => z.2 (List.mem_cons_of_mem _ zz)⟩
mutual
theorem Rp.topush {Y : Wd} {ρ : Rh} {H : Hp} {p : Addr} : ∀ {t : T} {v : V}, Rp Y (ρ.ban p) H t v → Rp Y (ρ.push p) H t v
  | _, _, .non => .non
  | _, _, .bl b => .bl b
  | _, _, .int i => .int i
  | _, _, .str h => .str h
  | _, _, .tup h r => .tup ⟨h.1, h.2.elim (fun z => .inl ⟨Rh.out_push z.1, z.2⟩) .inr⟩ r.topush
  | _, _, .arg h r => .arg ⟨h.1, h.2.elim (fun z => .inl ⟨Rh.out_push z.1, z.2⟩) .inr⟩ r.topush
  | _, _, .tpx h r => .tpx (h.to Rh.out_push fun _ _ => rfl) r.topush
  | _, _, .exc h nm r => .exc (h.to (fun _ _ o _ => Rh.out_push o) fun _ _ _ z => z) nm r.topush
  | _, _, .lst h r => .lst ⟨h.1, Rh.out_push h.2.1, h.2.2⟩ r.topush
  | _, _, .obj c n h nm r => .obj c (Rh.out_push n) h nm r.topush
  | _, _, .ref h => .ref (by
    have h' : ρ.ix[_]? = some _ := h
    show (ρ.ix ++ [p])[_]? = _
    rw [List.getElem?_append_left (List.getElem?_eq_some_iff.mp h').1]; exact h')
theorem Rps.topush {Y : Wd} {ρ : Rh} {H : Hp} {p : Addr} : ∀ {ts : List T} {vs : List V}, Rps Y (ρ.ban p) H ts vs → Rps Y (ρ.push p) H ts vs
  | _, _, .nil => .nil
  | _, _, .cons a b => .cons a.topush b.topush
end
theorem HR.topush {Y : Wd} {ρ : Rh} {H : Hp} {h : VH} {p : Addr} {vo : VO} (hp : p ∉ ρ.bn) (r : HR Y (ρ.ban p) H h) (ho : OR Y (ρ.push p) H p vo) : HR Y (ρ.push p) H (h ++ [vo]) := by
  have nix : p ∉ ρ.ix := (r.bt p List.mem_cons_self).2
  refine ⟨?_, ?_, fun a ha => ?_, r.unban.bl, fun n o a q1 q2 => ?_, r.tbTo (fun _ o _ => Rh.out_push o) fun _ _ _ => rfl⟩
  · have z : ρ.ix.length = h.length := r.len
    show (ρ.ix ++ [p]).length = (h ++ [vo]).length
    simp [z]
  · show (ρ.ix ++ [p]).Nodup
    rw [List.nodup_append]
    exact ⟨r.nd, by simp, fun a ha b hb z => by rw [List.mem_singleton.mp hb] at z; exact nix (z ▸ ha)⟩
  · have ha : a ∈ ρ.bn := ha
    refine ⟨(r.unban.bt a ha).1, fun z => ?_⟩
    rcases List.mem_append.mp (show a ∈ ρ.ix ++ [p] from z) with z | z
    · exact (r.unban.bt a ha).2 z
    · rw [List.mem_singleton.mp z] at ha
      exact hp ha
  · have q2 : (ρ.ix ++ [p])[n]? = some a := q2
    have hlen : ρ.ix.length = h.length := r.len
    by_cases hn : n < ρ.ix.length
    · rw [List.getElem?_append_left (by rw [← hlen]; exact hn)] at q1
      rw [List.getElem?_append_left hn] at q2
      have q := r.at_ n o a q1 q2
      cases o with
      | lst us => obtain ⟨ws', b1, b2, b3⟩ := q; exact ⟨ws', b1, b2, b3.topush⟩
      | ins cc fs => obtain ⟨C, dx, vfs, b0, b1, b2, b3⟩ := q; exact ⟨C, dx, vfs, b0, b1, b2, b3.topush⟩
      | dct kvs => obtain ⟨vk, b1, b2, b3⟩ := q; exact ⟨vk, b1, b2.topush, b3.topush⟩
      | dcT kvs => obtain ⟨vk, b1, b2, b3⟩ := q; exact ⟨vk, b1, b2, b3.topush⟩
      | dcF kvs => obtain ⟨z, vk, b1, b2, b3⟩ := q; exact ⟨z, vk, b1, b2.topush, b3.topush⟩
      | dcN kvs => obtain ⟨xs, b1, b0, b2, b3⟩ := q; exact ⟨xs, b1, b0, b2.topush, b3.topush⟩
      | tab nm => exact ⟨q.1, TbAt.to q.2 rfl fun c o z => ⟨Rh.out_push o, z⟩⟩
    · have en : n = ρ.ix.length := by
        have z := (List.getElem?_eq_some_iff.mp q2).1
        simp at z; omega
      rw [en, List.getElem?_append_right (Nat.le_refl _)] at q2
      rw [en, hlen, List.getElem?_append_right (Nat.le_refl _)] at q1
      simp at q1 q2
      subst q1 q2
      exact ho
def Sl (Y : Wd) (ρ : Rh) (H : Hp) (τ : TS_) (σ : St) : Prop := τ.length = σ.length ∧ ∀ (i : Nat) (t : T), τ[i]? = some (some t) → ∃ v, σ[i]? = some (some v) ∧ Rp Y ρ H t v
theorem Sl.ev {Y : Wd} {ρ ρ' : Rh} {H H' : Hp} {τ : TS_} {σ : St} (e : EvR ρ H ρ' H') (s : Sl Y ρ H τ σ) : Sl Y ρ' H' τ σ := ⟨s.1, fun i t h => let ⟨v, a, b⟩ := s.2 i t h; ⟨v, a, b.ev e⟩⟩
theorem Sl.set {Y : Wd} {ρ : Rh} {H : Hp} {τ : TS_} {σ : St} (s : Sl Y ρ H τ σ) {t : T} {v : V} (i : Nat) (r : Rp Y ρ H t v) : Sl Y ρ H (τ.set i (some t)) (σ.set i (some v)) := by
  refine ⟨by simp [s.1], fun j t' h => ?_⟩
  by_cases hj : i = j
  · subst hj
    have hi : i < τ.length := by
      have := (List.getElem?_eq_some_iff.mp h).1
      simpa using this
    rw [List.getElem?_set_self hi] at h
    cases h
    exact ⟨v, List.getElem?_set_self (by rw [← s.1]; exact hi), r⟩
  · rw [List.getElem?_set_ne hj] at h ⊢
    exact s.2 j t' h
structure Go (Y : Wd) (ρ : Rh) (H : Hp) (τ : TS_) (σ : St) (h : VH) : Prop where
  sl : Sl Y ρ H τ σ
  hr : HR Y ρ H h
structure To {α β : Type} (Y : Wd) (R : Rh → Hp → α → β → Prop) (ρ : Rh) (H : Hp) (t : α) (h' : VH) (Q : β → Hp → Prop) : Prop where
  to : ∀ ρ' H' v, Ev ρ H ρ' H' → HR Y ρ' H' h' → R ρ' H' t v → Q v H'
def TM (Y : Wd) (f : ME) : TE := fun σ H Q => ∃ ρ τ h t h', Go Y ρ H τ σ h ∧ f τ h = .ok t h' ∧ To Y (Rp Y) ρ H t h' Q
def TMA (Y : Wd) (f : MA) : TA := fun σ H Q => ∃ ρ τ h t h', Go Y ρ H τ σ h ∧ f τ h = .ok t h' ∧ To Y (Rps Y) ρ H t h' Q
def TMB (Y : Wd) (f : MB) : TT := fun σ H Q => ∃ ρ τ h t h', Go Y ρ H τ σ h ∧ f τ h = .ok t h' ∧ To Y (fun _ _ a b => a = b) ρ H t h' Q
def OutTo (Y : Wd) (ρ : Rh) (H : Hp) (o : Out) (D : Ends) : Prop := match o with
  | .nx τ h => ∀ ρ' H' σ, Ev ρ H ρ' H' → HR Y ρ' H' h → Sl Y ρ' H' τ σ → D.nx σ H'
  | .bk τ h => ∀ ρ' H' σ, Ev ρ H ρ' H' → HR Y ρ' H' h → Sl Y ρ' H' τ σ → D.bk σ H'
  | .ct τ h => ∀ ρ' H' σ, Ev ρ H ρ' H' → HR Y ρ' H' h → Sl Y ρ' H' τ σ → D.ct σ H'
  | .rt t h => ∀ ρ' H' v, Ev ρ H ρ' H' → HR Y ρ' H' h → Rp Y ρ' H' t v → D.rt v H'
  | .bad => False
def TMS (Y : Wd) (f : MS) : TS := fun D σ H => ∃ ρ τ h, Go Y ρ H τ σ h ∧ OutTo Y ρ H (f τ h) D
theorem To.ev {α β : Type} {Y : Wd} {R : Rh → Hp → α → β → Prop} {ρ ρ1 : Rh} {H H1 : Hp} {t : α} {h' : VH} {Q : β → Hp → Prop} (e : Ev ρ H ρ1 H1) (g : To Y R ρ H t h' Q) : To Y R ρ1 H1 t h' Q :=
  ⟨fun ρ' H' v e1 hr r => g.to ρ' H' v (e.trans e1) hr r⟩
theorem OutTo.ev {Y : Wd} {ρ ρ1 : Rh} {H H1 : Hp} {o : Out} {D : Ends} (e : Ev ρ H ρ1 H1) (g : OutTo Y ρ H o D) : OutTo Y ρ1 H1 o D := by
  cases o with
  | nx τ h => exact fun ρ' H' σ e1 => g ρ' H' σ (e.trans e1)
  | bk τ h => exact fun ρ' H' σ e1 => g ρ' H' σ (e.trans e1)
  | ct τ h => exact fun ρ' H' σ e1 => g ρ' H' σ (e.trans e1)
  | rt τ h => exact fun ρ' H' σ e1 => g ρ' H' σ (e.trans e1)
  | bad => exact g
theorem Go.ev {Y : Wd} {ρ ρ1 : Rh} {H H1 : Hp} {τ : TS_} {σ : St} {h h1 : VH} (g : Go Y ρ H τ σ h) (e : Ev ρ H ρ1 H1) (hr : HR Y ρ1 H1 h1) : Go Y ρ1 H1 τ σ h1 := ⟨g.sl.ev e.toEvR, hr⟩
theorem pe_imp {X : Cx} {e : Expr} {t t' : TE} (h : PE X e t) (i : ∀ σ H Q, t' σ H Q → t σ H Q) : PE X e t' := ⟨fun pins s σ H Q I q => h.run pins s σ H Q I (i _ _ _ q)⟩
theorem pt_imp {X : Cx} {e : Expr} {t t' : TT} (h : PT X e t) (i : ∀ σ H Q, t' σ H Q → t σ H Q) : PT X e t' := ⟨fun pins s σ H Q I q => h.run pins s σ H Q I (i _ _ _ q)⟩
theorem pa_imp {X : Cx} {e : List Expr} {t t' : TA} (h : PA X e t) (i : ∀ σ H Q, t' σ H Q → t σ H Q) : PA X e t' := ⟨fun pos pins s σ H Q I q => h.run pos pins s σ H Q I (i _ _ _ q)⟩
theorem ps_imp {X : Cx} {e : Stmt} {t t' : TS} (h : PS X e t) (i : ∀ D σ H, t' D σ H → t D σ H) : PS X e t' := ⟨fun pins s σ H D I q => h.run pins s σ H D I (i _ _ _ q)⟩
theorem pss_imp {X : Cx} {e : List Stmt} {t t' : TS} (h : PSs X e t) (i : ∀ D σ H, t' D σ H → t D σ H) : PSs X e t' := ⟨fun pins s σ H D I q => h.run pins s σ H D I (i _ _ _ q)⟩
end TL
namespace TL
open PySem PySem.Spec L2
def listOf (h : VH) : T → Option (List T)
  | .lst ts => some ts
  | .ref n => match h[n]? with
    | some (.lst ts) => some ts
    | _ => none
  | _ => none
def tupOf : T → Option (List T)
  | .tup ts => some ts
  | _ => none
def seqOf (h : VH) : T → Option (List T)
  | .tup ts => some ts
  | .arg ts => some ts
  | t => listOf h t
theorem listOf_ok' {Y : Wd} {ρ : Rh} {H : Hp} {h : VH} {t : T} {v : V} {ts : List T} (r : Rp Y ρ H t v) (hr : HR Y ρ H h) (e : listOf h t = some ts) : ∃ a vs, v = .ref a ∧ H a = some (.lst vs) ∧ vs.length ≤ sizeLine ∧ Rps Y ρ H ts vs := by
  cases r with
  | lst la rs => simp only [listOf, Option.some.injEq] at e; subst e; exact ⟨_, _, rfl, la.2.2, la.1, rs⟩
  | @ref n a ha =>
    simp only [listOf] at e
    cases q : h[n]? with
    | none => rw [q] at e; cases e
    | some o =>
      rw [q] at e
      cases o with
      | lst us =>
        simp only [Option.some.injEq] at e; subst e
        obtain ⟨vs, h1, hz, h2⟩ := hr.at_ n _ a q ha
        exact ⟨_, vs, rfl, h1, hz, h2⟩
      | ins c fs => cases e
      | dct kvs => cases e
      | dcT kvs => cases e
      | dcF kvs => cases e
      | dcN kvs => cases e
      | tab q => cases e
  | _ => cases e
theorem listOf_ok {Y : Wd} {ρ : Rh} {H : Hp} {h : VH} {t : T} {v : V} {ts : List T} (r : Rp Y ρ H t v) (hr : HR Y ρ H h) (e : listOf h t = some ts) : ∃ a vs, v = .ref a ∧ SqL Y.K H a vs ∧ vs.length ≤ sizeLine ∧ Rps Y ρ H ts vs :=
  let ⟨a, vs, e1, e2, e3, e4⟩ := listOf_ok' r hr e
  ⟨a, vs, e1, .inl (.inl e2), e3, e4⟩
theorem tupOf_ok {Y : Wd} {ρ : Rh} {H : Hp} {t : T} {v : V} {ts : List T} (r : Rp Y ρ H t v) (e : tupOf t = some ts) : ∃ a vs, v = .ref a ∧ SqT Y.K H a vs ∧ vs.length ≤ sizeLine ∧ Rps Y ρ H ts vs := by
  cases r with
  | tup la rs => simp only [tupOf, Option.some.injEq] at e; subst e; exact ⟨_, _, rfl, la.sq, la.1, rs⟩
  | _ => cases e
theorem seqOf_ok {Y : Wd} {ρ : Rh} {H : Hp} {h : VH} {t : T} {v : V} {ts : List T} (r : Rp Y ρ H t v) (hr : HR Y ρ H h) (e : seqOf h t = some ts) : ∃ a vs, v = .ref a ∧ (SqL Y.K H a vs ∨ SqT Y.K H a vs) ∧ vs.length ≤ sizeLine ∧ Rps Y ρ H ts vs := by
  cases r with
  | tup la rs => simp only [seqOf, Option.some.injEq] at e; subst e; exact ⟨_, _, rfl, .inr la.sq, la.1, rs⟩
  | arg la rs => simp only [seqOf, Option.some.injEq] at e; subst e; exact ⟨_, _, rfl, .inl la.sq, la.1, rs⟩
  | lst la rs =>
    obtain ⟨a, vs, e1, e2, e3, e4⟩ := listOf_ok (.lst la rs) hr (show listOf h _ = some ts from e)
    exact ⟨a, vs, e1, .inl e2, e3, e4⟩
  | ref ha =>
    obtain ⟨a, vs, e1, e2, e3, e4⟩ := listOf_ok (.ref ha) hr (show listOf h _ = some ts from e)
    exact ⟨a, vs, e1, .inl e2, e3, e4⟩
  | _ => cases e
section
variable {X : Cx} {Y : Wd}
theorem tma_bind {f : MA} {g : List T → VH → Res T} {σ : St} {H : Hp} {Q : VK} (q : TM Y (fun τ h => match f τ h with | .ok t h1 => g t h1 | .bad => .bad) σ H Q) :
    TMA Y f σ H (fun x H1 => ∃ ρ1 h1 t u h', HR Y ρ1 H1 h1 ∧ Rps Y ρ1 H1 t x ∧ g t h1 = .ok u h' ∧ To Y (Rp Y) ρ1 H1 u h' Q) := by
  obtain ⟨ρ, τ, h, u, h', G, e, to⟩ := q
  cases e1 : f τ h with
  | bad => simp only [e1] at e; cases e
  | ok t h1 =>
    simp only [e1] at e
    exact ⟨ρ, τ, h, t, h1, G, e1, ⟨fun ρ1 H1 v ev hr r => ⟨ρ1, h1, t, u, h', hr, r, e, to.ev ev⟩⟩⟩
def eVar (i : Nat) : ME := fun τ h => match τ[i]? with
  | some (some t) => .ok t h
  | _ => .bad
def eK (t : T) : ME := fun _ h => .ok t h
theorem xVar (i : Nat) {x : Str} {pos : Pos} (hN : X.N[i]? = some x := by rfl) (hv : Vis X.env.scope x := by first | exact Or.inl rfl | exact Or.inr (Or.inl rfl) | exact Or.inr (Or.inr rfl)) (hd : (x == ("__debug__" : Str)) = false := by decide)
    (hcd : (x == ("__classdict__" : Str)) = false := by decide) : PE X (.Name x pos) (TM Y (eVar i)) := by
  refine pe_imp (pe_var (i := i) hN hv hd hcd) fun σ H Q q => ?_
  obtain ⟨ρ, τ, h, t, h', G, e, to⟩ := q
  unfold eVar at e
  split at e
  · rename_i t' et
    cases e
    obtain ⟨v, ev, r⟩ := G.sl.2 i t et
    exact ⟨v, ev, to.to ρ H v .refl G.hr r⟩
  · cases e
theorem tm_k {t : T} {v : V} (r : ∀ ρ H, Rp Y ρ H t v) (σ : St) (H : Hp) (Q : VK) (q : TM Y (eK t) σ H Q) : Q v H := by
  obtain ⟨ρ, τ, h, u, h', G, e, to⟩ := q
  cases e
  exact to.to ρ H v .refl G.hr (r ρ H)
theorem xInt {i : Int} {k : Nat} {pos : Pos} : PE X (.Constant (.int i) k pos) (TM Y (eK (.int i))) := pe_imp pe_int fun σ H Q q => tm_k (fun _ _ => .int i) σ H Q q
theorem xBl {b : Bool} {k : Nat} {pos : Pos} : PE X (.Constant (.bool b) k pos) (TM Y (eK (.bl b))) := pe_imp pe_bl fun σ H Q q => tm_k (fun _ _ => .bl b) σ H Q q
theorem xNon {k : Nat} {pos : Pos} : PE X (.Constant .none k pos) (TM Y (eK .non)) := pe_imp pe_non fun σ H Q q => tm_k (fun _ _ => .non) σ H Q q
theorem xStr {x : Str} {k : Nat} {pos : Pos} (hx : x.length ≤ 1000000 := by decide) : PE X (.Constant (.str x) k pos) (TM Y (eK (.str x))) := pe_imp pe_str fun σ H Q q => tm_k (fun _ _ => .str hx) σ H Q q
def aNil : MA := fun _ h => .ok [] h
def aCons (f : ME) (g : MA) : MA := fun τ h => match f τ h with
  | .ok t h1 => (match g τ h1 with
    | .ok ts h2 => .ok (t :: ts) h2
    | .bad => .bad)
  | .bad => .bad
theorem xaNil : PA X [] (TMA Y aNil) := pa_imp pa_nil fun σ H Q q => by
  obtain ⟨ρ, τ, h, u, h', G, e, to⟩ := q
  cases e
  exact to.to ρ H [] .refl G.hr .nil
theorem xaCons {e : Expr} {es : List Expr} {f : ME} {g : MA} (ha : PE X e (TM Y f)) (hr : PA X es (TMA Y g)) (hs : starEach (e :: es) X.env = (false, eval e X.env) :: starEach es X.env := by rfl) : PA X (e :: es) (TMA Y (aCons f g)) := by
  refine pa_imp (pa_cons ha hr hs) fun σ H Q q => ?_
  obtain ⟨ρ, τ, h, u, h', G, e, to⟩ := q
  unfold aCons at e
  cases e1 : f τ h with
  | bad => simp only [e1] at e; cases e
  | ok t h1 =>
    simp only [e1] at e
    refine ⟨ρ, τ, h, t, h1, G, e1, ⟨fun ρ1 H1 v ev hr1 r => ?_⟩⟩
    cases e2 : g τ h1 with
    | bad => simp only [e2] at e; cases e
    | ok ts h2 =>
      simp only [e2] at e
      cases e
      exact ⟨ρ1, τ, h1, _, _, G.ev ev hr1, e2, ⟨fun ρ2 H2 vs ev2 hr2 rs => to.to ρ2 H2 (v :: vs) (ev.trans ev2) hr2 (.cons (r.ev ev2.toEvR) rs)⟩⟩
def TMF (Y : Wd) (f : MA) : TE := fun σ H Q => ∃ ρ τ h ts h', Go Y ρ H τ σ h ∧ f τ h = .ok ts h' ∧
  ∀ ρ' H' D vs, Ev ρ H ρ' H' → HR Y ρ' H' h' → H D = none → LstAt Y ρ' H' D vs → Rps Y ρ' H' ts vs → HR Y (ρ'.push D) H' (h' ++ [.lst ts]) → Q (.ref D) H'
def eL (f : MA) : ME := fun τ h => match f τ h with
  | .ok ts h' => .ok (.lst ts) h'
  | .bad => .bad
def eH (f : MA) : ME := fun τ h => match f τ h with
  | .ok ts h' => .ok (.ref h'.length) (h' ++ [.lst ts])
  | .bad => .bad
theorem xL {e : Expr} {f : MA} (h : PE X e (TMF Y f)) : PE X e (TM Y (eL f)) := pe_imp h fun σ H Q q => by
  obtain ⟨ρ, τ, h, u, h', G, e, to⟩ := q
  unfold eL at e
  cases e1 : f τ h with
  | bad => simp only [e1] at e; cases e
  | ok ts h1 =>
    simp only [e1] at e
    cases e
    exact ⟨ρ, τ, h, ts, _, G, e1, fun ρ' H' D vs ev hr hD la rs _ => to.to ρ' H' _ ev hr (.lst la rs)⟩
theorem xH {e : Expr} {f : MA} (h : PE X e (TMF Y f)) : PE X e (TM Y (eH f)) := pe_imp h fun σ H Q q => by
  obtain ⟨ρ, τ, h, u, h', G, e, to⟩ := q
  unfold eH at e
  cases e1 : f τ h with
  | bad => simp only [e1] at e; cases e
  | ok ts h1 =>
    simp only [e1] at e
    cases e
    refine ⟨ρ, τ, h, ts, h1, G, e1, fun ρ' H' D vs ev hr hD la rs hp => to.to (ρ'.push D) H' _ (.mk' ?_ ev.bn ev.keep ev.there ev.fz) hp (.ref ?_)⟩
    · obtain ⟨m, em, hm⟩ := ev.more
      refine ⟨m ++ [D], by simp [Rh.push, em], fun p hp => ?_⟩
      rcases List.mem_append.mp hp with z | z
      · exact hm p z
      · rw [List.mem_singleton.mp z]; exact hD
    · show (ρ'.ix ++ [D])[_]? = _
      rw [List.getElem?_append_right (by rw [hr.len]; exact Nat.le_refl _), hr.len]
      simp
theorem newL {Y : Wd} {ρ : Rh} {H : Hp} {h : VH} {ts : List T} {vs : List V} {D : Addr} (hr : HR Y ρ H h) (rs : Rps Y ρ H ts vs) (hz : vs.length ≤ sizeLine) (hD : H D = none) :
    HR Y ρ (upd H D (.lst vs)) h ∧ LstAt Y ρ (upd H D (.lst vs)) D vs ∧ Rps Y ρ (upd H D (.lst vs)) ts vs ∧ HR Y (ρ.push D) (upd H D (.lst vs)) (h ++ [.lst ts]) :=
  ⟨hr.new hD, ⟨hz, hr.outof hD, upd_same⟩, rs.ev (Ev.new hD).toEvR, hr.push hD ⟨vs, upd_same, hz, rs.ev (Ev.newρ hD).toEvR⟩⟩
def aLim (f : MA) : MA := fun τ h => match f τ h with
  | .ok ts h' => if ts.length ≤ 16777216 then .ok ts h' else .bad
  | .bad => .bad
theorem xLst {es : List Expr} {g : MA} {pos : Pos} (ha : PA X es (TMA Y g)) : PE X (.List es pos) (TMF Y (aLim g)) := pe_imp (pe_lst ha) fun σ H Q q => by
  obtain ⟨ρ, τ, h, u, h', G, e, to⟩ := q
  unfold aLim at e
  cases e1 : g τ h with
  | bad => simp only [e1] at e; cases e
  | ok ts h1 =>
    simp only [e1] at e
    split at e
    · rename_i hl
      cases e
      refine ⟨ρ, τ, h, _, _, G, e1, ⟨fun ρ1 H1 vs ev hr rs => ⟨by rw [rs.length, sizeLine_eq]; exact hl, fun p hp => ?_⟩⟩⟩
      obtain ⟨n1, n2, n3, n4⟩ := newL hr rs (by rw [rs.length, sizeLine_eq]; exact hl) hp
      refine to ρ1 _ p vs (ev.trans (Ev.new hp)) n1 ?_ n2 n3 n4
      exact ev.fresh hp
    · cases e
def eTup (g : MA) : ME := fun τ h => match g τ h with
  | .ok ts h' => if ts.length ≤ 16777216 then .ok (.tup ts) h' else .bad
  | .bad => .bad
theorem newT {Y : Wd} {ρ : Rh} {H : Hp} {h : VH} {ts : List T} {vs : List V} {D : Addr} (hr : HR Y ρ H h) (rs : Rps Y ρ H ts vs) (hz : vs.length ≤ sizeLine) (hD : H D = none) :
    HR Y ρ (upd H D (.tup vs)) h ∧ Rp Y ρ (upd H D (.tup vs)) (.tup ts) (.ref D) :=
  ⟨hr.new hD, .tup ⟨hz, .inl ⟨hr.outof hD, .inl upd_same⟩⟩ (rs.ev (Ev.new hD).toEvR)⟩
theorem xTup {es : List Expr} {g : MA} {pos : Pos} {x1} (ha : PA X es (TMA Y g)) : PE X (.Tuple es x1 pos) (TM Y (eTup g)) := pe_imp (pe_tup ha) fun σ H Q q => by
  obtain ⟨ρ, τ, h, u, h', G, e, to⟩ := q
  unfold eTup at e
  cases e1 : g τ h with
  | bad => simp only [e1] at e; cases e
  | ok ts h1 =>
    simp only [e1] at e
    split at e
    · rename_i hl
      cases e
      refine ⟨ρ, τ, h, _, _, G, e1, ⟨fun ρ1 H1 vs ev hr rs => ⟨by rw [rs.length, sizeLine_eq]; exact hl, fun p hp => ?_⟩⟩⟩
      obtain ⟨n1, n2⟩ := newT hr rs (by rw [rs.length, sizeLine_eq]; exact hl) hp
      exact to.to ρ1 _ _ (ev.trans (Ev.new hp)) n1 n2
    · cases e
def CT (Y : Wd) (r : List V → Hp → VK → Prop) (b : List T → VH → Res T) : Prop := ∀ ρ H ts vs h t h' Q, Rps Y ρ H ts vs → HR Y ρ H h → b ts h = .ok t h' → To Y (Rp Y) ρ H t h' Q → r vs H Q
def eCall (b : List T → VH → Res T) (g : MA) : ME := fun τ h => match g τ h with
  | .ok ts h1 => b ts h1
  | .bad => .bad
theorem tm_call {r : List V → Hp → VK → Prop} {b : List T → VH → Res T} (ct : CT Y r b) {g : MA} {σ : St} {H : Hp} {Q : VK} (q : TM Y (eCall b g) σ H Q) : TMA Y g σ H fun vs H1 => r vs H1 Q := by
  obtain ⟨ρ, τ, h, t, h1, G, e, to⟩ := tma_bind (show TM Y (fun τ h => match g τ h with | .ok t h1 => b t h1 | .bad => .bad) σ H Q from q)
  refine ⟨ρ, τ, h, t, h1, G, e, ⟨fun ρ1 H1 v ev hr rs => ?_⟩⟩
  obtain ⟨ρ2, h2, t2, u, h3, hr2, rs2, e2, to2⟩ := to.to ρ1 H1 v ev hr rs
  exact ct ρ2 H1 t2 v h2 u h3 Q rs2 hr2 e2 to2
def OT (Y : Wd) (r : R2) (b : T → T → VH → Res T) : Prop := ∀ ρ H t1 t2 v1 v2 h t h' Q, Rp Y ρ H t1 v1 → Rp Y ρ H t2 v2 → HR Y ρ H h → b t1 t2 h = .ok t h' → To Y (Rp Y) ρ H t h' Q → r v1 v2 H Q
def eOp (b : T → T → VH → Res T) (f g : ME) : ME := fun τ h => match f τ h with
  | .ok t h1 => (match g τ h1 with
    | .ok u h2 => b t u h2
    | .bad => .bad)
  | .bad => .bad
theorem tm_op {r : R2} {b : T → T → VH → Res T} (ot : OT Y r b) {f g : ME} {σ : St} {H : Hp} {Q : VK} (q : TM Y (eOp b f g) σ H Q) : TM Y f σ H fun x H1 => TM Y g σ H1 fun y H2 => r x y H2 Q := by
  obtain ⟨ρ, τ, h, u, h', G, e, to⟩ := q
  unfold eOp at e
  cases e1 : f τ h with
  | bad => simp only [e1] at e; cases e
  | ok t h1 =>
    simp only [e1] at e
    refine ⟨ρ, τ, h, t, h1, G, e1, ⟨fun ρ1 H1 v ev hr1 r1 => ?_⟩⟩
    cases e2 : g τ h1 with
    | bad => simp only [e2] at e; cases e
    | ok s h2 =>
      simp only [e2] at e
      exact ⟨ρ1, τ, h1, s, h2, G.ev ev hr1, e2, ⟨fun ρ2 H2 w ev2 hr2 r2 => ot ρ2 H2 t s v w h2 u h' Q (r1.ev ev2.toEvR) r2 hr2 e (to.ev (ev.trans ev2))⟩⟩
theorem xOp {op : Operator} {r : R2} {b : T → T → VH → Res T} (ot : OT Y r b) {a c : Expr} {f g : ME} {pos : Pos} (ho : OpR X (binaryOp op) r) (ha : PE X a (TM Y f)) (hb : PE X c (TM Y g)) : PE X (.BinOp a op c pos) (TM Y (eOp b f g)) :=
  pe_imp (pe_op ho ha hb) fun σ H Q q => tm_op ot q
theorem xCmp {op : CmpOp} {r : R2} {b : T → T → VH → Res T} (ot : OT Y r b) {a c : Expr} {f g : ME} {pos : Pos} (ho : OpR X (compareOp op) r) (ha : PE X a (TM Y f)) (hb : PE X c (TM Y g)) (hm : behindInMarks op c = false := by first | exact nomark _ | rfl) : PE X (.Compare a [op] [c] pos) (TM Y (eOp b f g)) :=
  pe_imp (pe_cmpR ho ha hb hm) fun σ H Q q => tm_op ot q
theorem xCallB {id : String} {x : Str} {r : List V → Hp → VK → Prop} {b : List T → VH → Res T} (ct : CT Y r b) {e : Expr} {es : List Expr} {g : MA} {p pos : Pos} (hc : CallR X (.builtin id) r) (hg : Gl X x) (hm : X.mg x = none) (hv : bootBuiltins x = some (.builtin id)) (ha : PA X (e :: es) (TMA Y g)) (hn : x ≠ "__name__" := by decide) (hdb : (x == ("__debug__" : Str)) = false := by decide)
    (he : starEach (e :: es) X.env = (false, eval e X.env) :: starEach es X.env := by rfl) (hpl : (backTo pos (starEach es X.env)).any (·.1) = false := by rfl) :
    PE X (.Call (.Name x p) (e :: es) [] pos) (TM Y (eCall b g)) := pe_imp (pe_callB hc hg hm hv ha hn hdb he hpl) fun σ H Q q => tm_call ct q
theorem xCallTy {T' : String} {x : Str} {r : List V → Hp → VK → Prop} {b : List T → VH → Res T} (ct : CT Y r b) {e : Expr} {es : List Expr} {g : MA} {p pos : Pos} (hc : CallR X (.type T') r) (hg : Gl X x) (hm : X.mg x = none) (hv : bootBuiltins x = some (.type T')) (ha : PA X (e :: es) (TMA Y g)) (hn : x ≠ "__name__" := by decide) (hdb : (x == ("__debug__" : Str)) = false := by decide)
    (he : starEach (e :: es) X.env = (false, eval e X.env) :: starEach es X.env := by rfl) (hpl : (backTo pos (starEach es X.env)).any (·.1) = false := by rfl) :
    PE X (.Call (.Name x p) (e :: es) [] pos) (TM Y (eCall b g)) := pe_imp (pe_callTy hc hg hm hv ha hn hdb he hpl) fun σ H Q q => tm_call ct q
def bTest (f : ME) : MB := fun τ h => match f τ h with
  | .ok (.bl b) h1 => .ok b h1
  | _ => .bad
theorem xtVal {e : Expr} {f : ME} (h : PE X e (TM Y f)) (he : ∀ whole, isTrue e X.env whole = (do let v ← whole; standAt e.pos; holding [v] (truthy v)) := by intro _; rfl) : PT X e (TMB Y (bTest f)) := pt_imp (pt_val h he) fun σ H Q q => by
  obtain ⟨ρ, τ, h, u, h', G, e, to⟩ := q
  unfold bTest at e
  split at e
  · rename_i b h1 e1
    cases e
    refine ⟨ρ, τ, h, _, _, G, e1, ⟨fun ρ1 H1 v ev hr r => ?_⟩⟩
    cases r
    exact ⟨_, rfl, to.to ρ1 H1 _ ev hr rfl⟩
  · cases e
theorem xtCmp {op : CmpOp} {r : R2} {b : T → T → VH → Res T} (ot : OT Y r b) {a c : Expr} {f g : ME} {pos : Pos} (ho : OpR X (compareOp op) r) (ha : PE X a (TM Y f)) (hb : PE X c (TM Y g)) (hm : behindInMarks op c = false := by first | exact nomark _ | rfl) : PT X (.Compare a [op] [c] pos) (TMB Y (bTest (eOp b f g))) :=
  pt_imp (pt_cmpR ho ha hb hm) fun σ H Q q => by
    obtain ⟨ρ, τ, h, u, h', G, e, to⟩ := q
    refine tm_op ot (Q := fun x H' => ∃ k, x = .bl k ∧ Q k H') ?_
    unfold bTest at e
    split at e
    · rename_i b h1 e1
      cases e
      refine ⟨ρ, τ, h, _, _, G, e1, ⟨fun ρ1 H1 v ev hr r => ?_⟩⟩
      cases r
      exact ⟨_, rfl, to.to ρ1 H1 _ ev hr rfl⟩
    · cases e
def bAnd (c d : MB) : MB := fun τ h => match c τ h with
  | .ok true h1 => d τ h1
  | .ok false h1 => .ok false h1
  | .bad => .bad
def bOr (c d : MB) : MB := fun τ h => match c τ h with
  | .ok true h1 => .ok true h1
  | .ok false h1 => d τ h1
  | .bad => .bad
def bNot (c : MB) : MB := fun τ h => match c τ h with
  | .ok b h1 => .ok (!b) h1
  | .bad => .bad
theorem pw_imp {e : Expr} {t t' : TT} (h : PW X e t) (i : ∀ σ H Q, t' σ H Q → t σ H Q) : PW X e t' := ⟨fun wh pins s σ H Q I q => h.run wh pins s σ H Q I (i _ _ _ q)⟩
theorem xwAnd1 {a : Expr} {c : MB} {pos : Pos} (h : PT X a (TMB Y c)) : PW X (.BoolOp .And [a] pos) (TMB Y c) := pw_and1 h
theorem xwOr1 {a : Expr} {c : MB} {pos : Pos} (h : PT X a (TMB Y c)) : PW X (.BoolOp .Or [a] pos) (TMB Y c) := pw_or1 h
theorem xwAnd {a b : Expr} {rest : List Expr} {c d : MB} {pos : Pos} (ha : PT X a (TMB Y c)) (hb : PW X (.BoolOp .And (b :: rest) pos) (TMB Y d)) : PW X (.BoolOp .And (a :: b :: rest) pos) (TMB Y (bAnd c d)) := pw_imp (pw_and ha hb) fun σ H Q q => by
  obtain ⟨ρ, τ, h, u, h', G, e, to⟩ := q
  unfold bAnd at e
  split at e
  · rename_i h1 e1
    exact ⟨ρ, τ, h, true, h1, G, e1, ⟨fun ρ1 H1 k ev hr ek => by subst ek; exact iteT ⟨ρ1, τ, h1, u, h', G.ev ev hr, e, to.ev ev⟩⟩⟩
  · rename_i h1 e1
    cases e
    exact ⟨ρ, τ, h, false, _, G, e1, ⟨fun ρ1 H1 k ev hr ek => by subst ek; exact iteF (to.to ρ1 H1 false ev hr rfl)⟩⟩
  · cases e
theorem xwOr {a b : Expr} {rest : List Expr} {c d : MB} {pos : Pos} (ha : PT X a (TMB Y c)) (hb : PW X (.BoolOp .Or (b :: rest) pos) (TMB Y d)) : PW X (.BoolOp .Or (a :: b :: rest) pos) (TMB Y (bOr c d)) := pw_imp (pw_or ha hb) fun σ H Q q => by
  obtain ⟨ρ, τ, h, u, h', G, e, to⟩ := q
  unfold bOr at e
  split at e
  · rename_i h1 e1
    cases e
    exact ⟨ρ, τ, h, true, _, G, e1, ⟨fun ρ1 H1 k ev hr ek => by subst ek; exact iteT (to.to ρ1 H1 true ev hr rfl)⟩⟩
  · rename_i h1 e1
    exact ⟨ρ, τ, h, false, h1, G, e1, ⟨fun ρ1 H1 k ev hr ek => by subst ek; exact iteF ⟨ρ1, τ, h1, u, h', G.ev ev hr, e, to.ev ev⟩⟩⟩
  · cases e
theorem xtW {e : Expr} {c : MB} (h : PW X e (TMB Y c)) : PT X e (TMB Y c) := h.pt
theorem xtNot {a : Expr} {c : MB} {pos : Pos} (h : PT X a (TMB Y c)) : PT X (.UnaryOp .Not a pos) (TMB Y (bNot c)) := pt_imp (pt_not h) fun σ H Q q => by
  obtain ⟨ρ, τ, h, u, h', G, e, to⟩ := q
  unfold bNot at e
  split at e
  · rename_i b h1 e1
    cases e
    exact ⟨ρ, τ, h, b, _, G, e1, ⟨fun ρ1 H1 k ev hr ek => by subst ek; exact to.to ρ1 H1 _ ev hr rfl⟩⟩
  · cases e
def eIf (c : MB) (f g : ME) : ME := fun τ h => match c τ h with
  | .ok true h1 => f τ h1
  | .ok false h1 => g τ h1
  | .bad => .bad
theorem xIf {c a b : Expr} {m : MB} {f g : ME} {pos : Pos} (hc : PT X c (TMB Y m)) (ha : PE X a (TM Y f)) (hb : PE X b (TM Y g)) : PE X (.IfExp c a b pos) (TM Y (eIf m f g)) := pe_imp (pe_ifExp hc ha hb) fun σ H Q q => by
  obtain ⟨ρ, τ, h, u, h', G, e, to⟩ := q
  unfold eIf at e
  split at e
  · rename_i h1 e1
    exact ⟨ρ, τ, h, true, h1, G, e1, ⟨fun ρ1 H1 k ev hr ek => by subst ek; exact iteT ⟨ρ1, τ, h1, u, h', G.ev ev hr, e, to.ev ev⟩⟩⟩
  · rename_i h1 e1
    exact ⟨ρ, τ, h, false, h1, G, e1, ⟨fun ρ1 H1 k ev hr ek => by subst ek; exact iteF ⟨ρ1, τ, h1, u, h', G.ev ev hr, e, to.ev ev⟩⟩⟩
  · cases e
def eAnd (f g : ME) : ME := fun τ h => match f τ h with
  | .ok (.bl true) h1 => g τ h1
  | .ok (.bl false) h1 => .ok (.bl false) h1
  | _ => .bad
def eOr (f g : ME) : ME := fun τ h => match f τ h with
  | .ok (.bl true) h1 => .ok (.bl true) h1
  | .ok (.bl false) h1 => g τ h1
  | _ => .bad
def eNot (f : ME) : ME := fun τ h => match f τ h with
  | .ok (.bl b) h1 => .ok (.bl (!b)) h1
  | _ => .bad
theorem xOne {op : BoolOp} {a : Expr} {f : ME} {pos : Pos} (h : PE X a (TM Y f)) : PE X (.BoolOp op [a] pos) (TM Y f) := pe_one h
theorem xAnd {a b : Expr} {rest : List Expr} {f g : ME} {pos : Pos} (ha : PE X a (TM Y f)) (hb : PE X (.BoolOp .And (b :: rest) pos) (TM Y g)) : PE X (.BoolOp .And (a :: b :: rest) pos) (TM Y (eAnd f g)) := pe_imp (pe_and ha hb) fun σ H Q q => by
  obtain ⟨ρ, τ, h, u, h', G, e, to⟩ := q
  unfold eAnd at e
  split at e
  · rename_i h1 e1
    exact ⟨ρ, τ, h, _, h1, G, e1, ⟨fun ρ1 H1 v ev hr r => by cases r; exact ⟨true, rfl, iteT ⟨ρ1, τ, h1, u, h', G.ev ev hr, e, to.ev ev⟩⟩⟩⟩
  · rename_i h1 e1
    cases e
    exact ⟨ρ, τ, h, _, _, G, e1, ⟨fun ρ1 H1 v ev hr r => by cases r; exact ⟨false, rfl, iteF (to.to ρ1 H1 _ ev hr (.bl false))⟩⟩⟩
  · cases e
theorem xNot {a : Expr} {f : ME} {pos : Pos} (h : PE X a (TM Y f)) : PE X (.UnaryOp .Not a pos) (TM Y (eNot f)) := pe_imp (pe_not h) fun σ H Q q => by
  obtain ⟨ρ, τ, h, u, h', G, e, to⟩ := q
  unfold eNot at e
  split at e
  · rename_i b h1 e1
    cases e
    exact ⟨ρ, τ, h, _, _, G, e1, ⟨fun ρ1 H1 v ev hr r => by cases r; exact ⟨b, rfl, to.to ρ1 H1 _ ev hr (.bl _)⟩⟩⟩
  · cases e
end
end TL
namespace TL
open PySem PySem.Spec L2
section
variable {X : Cx} {Y : Wd}
def sNil : MS := fun τ h => .nx τ h
def sSeq (f g : MS) : MS := fun τ h => match f τ h with
  | .nx τ' h' => g τ' h'
  | o => o
theorem xsNil : PSs X [] (TMS Y sNil) := pss_imp pss_nil fun D σ H q => by
  obtain ⟨ρ, τ, h, G, to⟩ := q
  exact to ρ H σ .refl G.hr G.sl
theorem xsCons {st : Stmt} {rest : List Stmt} {f g : MS} (h1 : PS X st (TMS Y f)) (h2 : PSs X rest (TMS Y g)) : PSs X (st :: rest) (TMS Y (sSeq f g)) := pss_imp (pss_cons h1 h2) fun D σ H q => by
  obtain ⟨ρ, τ, h, G, to⟩ := q
  refine ⟨ρ, τ, h, G, ?_⟩
  unfold sSeq at to
  cases e : f τ h with
  | nx τ' h' =>
    rw [e] at to
    exact fun ρ' H' σ' ev hr sl => ⟨ρ', τ', h', ⟨sl, hr⟩, OutTo.ev ev to⟩
  | rt t h' => rw [e] at to; exact to
  | bk τ' h' => rw [e] at to; exact to
  | ct τ' h' => rw [e] at to; exact to
  | bad => rw [e] at to; exact to
theorem xsOne {st : Stmt} {f : MS} (h1 : PS X st (TMS Y f)) : PSs X [st] (TMS Y f) := pss_one h1
def sRet (f : ME) : MS := fun τ h => match f τ h with
  | .ok t h' => .rt t h'
  | .bad => .bad
theorem xsRet {e : Expr} {f : ME} {pos : Pos} (he : PE X e (TM Y f)) : PS X (.Return (some e) pos) (TMS Y (sRet f)) := ps_imp (ps_ret he) fun D σ H q => by
  obtain ⟨ρ, τ, h, G, to⟩ := q
  unfold sRet at to
  cases e : f τ h with
  | bad => simp only [e] at to; exact to.elim
  | ok t h' => simp only [e] at to; exact ⟨ρ, τ, h, t, h', G, e, ⟨fun ρ' H' v ev hr r => to ρ' H' v ev hr r⟩⟩
def sExpr (f : ME) : MS := fun τ h => match f τ h with
  | .ok _ h' => .nx τ h'
  | .bad => .bad
theorem xsExpr {e : Expr} {f : ME} {pos : Pos} (he : PE X e (TM Y f)) (hs : swapsWith e none pos.line X.env = pure false := by rfl) : PS X (.Expr e pos) (TMS Y (sExpr f)) := ps_imp (ps_expr he hs) fun D σ H q => by
  obtain ⟨ρ, τ, h, G, to⟩ := q
  unfold sExpr at to
  cases e : f τ h with
  | bad => simp only [e] at to; exact to.elim
  | ok t h' => simp only [e] at to; exact ⟨ρ, τ, h, t, h', G, e, ⟨fun ρ' H' v ev hr r => to ρ' H' σ ev hr (G.sl.ev ev.toEvR)⟩⟩
def sBad : MS := fun _ _ => .bad
theorem xsBad {st : Stmt} : PS X st (TMS Y sBad) := ps_imp ps_never fun D σ H q => by
  obtain ⟨ρ, τ, h, G, to⟩ := q
  exact to.elim
def sBrk : MS := fun τ h => .bk τ h
def sIf (c : MB) (f g : MS) : MS := fun τ h => match c τ h with
  | .ok true h1 => f τ h1
  | .ok false h1 => g τ h1
  | .bad => .bad
theorem xsIf {c : Expr} {a b : List Stmt} {m : MB} {f g : MS} {pos : Pos} (hc : PT X c (TMB Y m)) (ha : PSs X a (TMS Y f)) (hb : PSs X b (TMS Y g)) : PS X (.If c a b pos) (TMS Y (sIf m f g)) := ps_imp (ps_if hc ha hb) fun D σ H q => by
  obtain ⟨ρ, τ, h, G, to⟩ := q
  unfold sIf at to
  split at to
  · rename_i h1 e1
    exact ⟨ρ, τ, h, true, h1, G, e1, ⟨fun ρ1 H1 k ev hr ek => by subst ek; exact iteT ⟨ρ1, τ, h1, G.ev ev hr, to.ev ev⟩⟩⟩
  · rename_i h1 e1
    exact ⟨ρ, τ, h, false, h1, G, e1, ⟨fun ρ1 H1 k ev hr ek => by subst ek; exact iteF ⟨ρ1, τ, h1, G.ev ev hr, to.ev ev⟩⟩⟩
  · exact to.elim
abbrev MG := T → TS_ → VH → Res TS_
abbrev MGs := List T → TS_ → VH → Res TS_
def TMG (Y : Wd) (g : MG) : TG := fun v σ H Q => ∃ ρ τ h t τ' h', Go Y ρ H τ σ h ∧ Rp Y ρ H t v ∧ g t τ h = .ok τ' h' ∧ ∀ ρ' H' σ', Ev ρ H ρ' H' → HR Y ρ' H' h' → Sl Y ρ' H' τ' σ' → Q σ' H'
def TMGs (Y : Wd) (g : MGs) : TGs := fun v σ H Q => ∃ ρ τ h t τ' h', Go Y ρ H τ σ h ∧ Rps Y ρ H t v ∧ g t τ h = .ok τ' h' ∧ ∀ ρ' H' σ', Ev ρ H ρ' H' → HR Y ρ' H' h' → Sl Y ρ' H' τ' σ' → Q σ' H'
theorem pg_imp {e : Expr} {t t' : TG} (h : PG X e t) (i : ∀ v σ H Q, t' v σ H Q → t v σ H Q) : PG X e t' := ⟨fun pins s σ H v u Q I r q => h.run pins s σ H v u Q I r (i _ _ _ _ q)⟩
theorem pgs_imp {e : List Expr} {t t' : TGs} (h : PGs X e t) (i : ∀ v σ H Q, t' v σ H Q → t v σ H Q) : PGs X e t' := ⟨fun pins s σ H v u Q I r q => h.run pins s σ H v u Q I r (i _ _ _ _ q)⟩
def mgName (i : Nat) : MG := fun t τ h => .ok (τ.set i (some t)) h
theorem xgName {i : Nat} {x : Str} {pos : Pos} (hN : X.N.Nodup) (hi : X.N[i]? = some x) (hx : Loc X.env.scope x) (hf : X.fn x = true ∨ X.env.scope.names.lookup x = some .local := by first | exact .inl rfl | exact .inr rfl | assumption) : PG X (.Name x pos) (TMG Y (mgName i)) :=
  pg_imp (pg_name hN hi hx hf) fun v σ H Q q => by
    obtain ⟨ρ, τ, h, t, τ', h', G, r, e, to⟩ := q
    cases e
    exact to ρ H _ .refl G.hr (G.sl.set i r)
def mgsNil : MGs := fun ts τ h => match ts with
  | [] => .ok τ h
  | _ => .bad
def mgsCons (g : MG) (gs : MGs) : MGs := fun ts τ h => match ts with
  | t :: r => (match g t τ h with
    | .ok τ' h' => gs r τ' h'
    | .bad => .bad)
  | _ => .bad
theorem xgsNil : PGs X [] (TMGs Y mgsNil) := pgs_imp pgs_nil fun v σ H Q q => by
  obtain ⟨ρ, τ, h, t, τ', h', G, r, e, to⟩ := q
  cases r with
  | nil => cases e; exact ⟨rfl, to ρ H _ .refl G.hr G.sl⟩
  | cons a b => cases e
theorem xgsCons {e : Expr} {es : List Expr} {g : MG} {gs : MGs} (h1 : PG X e (TMG Y g)) (h2 : PGs X es (TMGs Y gs)) (hs : (assignEach (e :: es) X.env).map (·.2) = assign e X.env :: (assignEach es X.env).map (·.2) := by rfl) : PGs X (e :: es) (TMGs Y (mgsCons g gs)) :=
  pgs_imp (pgs_cons h1 h2 hs) fun v σ H Q q => by
    obtain ⟨ρ, τ, h, t, τ', h', G, r, e, to⟩ := q
    cases r with
    | nil => cases e
    | cons a b =>
      unfold mgsCons at e
      dsimp only at e
      split at e
      · rename_i τ1 h1 e1
        exact ⟨_, _, rfl, ρ, τ, h, _, τ1, h1, G, a, e1, fun ρ1 H1 σ1 ev hr sl => ⟨ρ1, τ1, h1, _, τ', h', ⟨sl, hr⟩, b.ev ev.toEvR, e, fun ρ2 H2 σ2 ev2 => to ρ2 H2 σ2 (ev.trans ev2)⟩⟩
      · cases e
def mgTup (n : Nat) (gs : MGs) : MG := fun t τ h => match t with
  | .tup ts => if ts.length = n then gs ts τ h else .bad
  | _ => .bad
theorem xgTup {es : List Expr} {k : Nat} {gs : MGs} {n : Nat} {pos : Pos} (hc : X.calm = true) (hK : X.K = Y.K) (h : PGs X es (TMGs Y gs)) (hn : (assignEach es X.env).length = n := by rfl) (hst : (assignEach es X.env).findIdx? (·.1) = none := by rfl) : PG X (.Tuple es k pos) (TMG Y (mgTup n gs)) :=
  pg_imp (pg_tup hc h hn hst) fun v σ H Q q => by
    obtain ⟨ρ, τ, h, t, τ', h', G, r, e, to⟩ := q
    unfold mgTup at e
    split at e
    · split at e
      · rename_i ts hl
        cases r with
        | tup ta rs => exact ⟨_, _, rfl, by rw [hK]; exact ta.sq, by rw [rs.length]; exact hl, ρ, τ, h, ts, τ', h', G, rs, e, to⟩
      · cases e
    · cases e
def ST (Y : Wd) (r : TSet) (b : T → T → T → VH → Res Unit) : Prop := ∀ ρ H o i t vo vi v h h' Q, Rp Y ρ H o vo → Rp Y ρ H i vi → Rp Y ρ H t v → HR Y ρ H h → b o i t h = .ok () h' → (∀ ρ' H', Ev ρ H ρ' H' → HR Y ρ' H' h' → Q H') → r vo vi v H Q
def mgSub (b : T → T → T → VH → Res Unit) (fo fi : ME) : MG := fun t τ h => match fo τ h with
  | .ok o h1 => (match fi τ h1 with
    | .ok i h2 => (match b o i t h2 with
      | .ok _ h3 => .ok τ h3
      | .bad => .bad)
    | .bad => .bad)
  | .bad => .bad
theorem xgSub {o i : Expr} {fo fi : ME} {r : TSet} {b : T → T → T → VH → Res Unit} {pos : Pos} (st : ST Y r b) (ho : PE X o (TM Y fo)) (hi : PE X i (TM Y fi)) (hs : PSet X r)
    (ha : ∀ v, assign (.Subscript o i pos) X.env v = (do
      let ov ← holding [v] (eval o X.env)
      let iv ← holding [v, ov] (eval i X.env)
      standAt pos
      holding [v, ov, iv] (setItem ov iv v)
      release [v, ov, iv] []) := by intro _; rfl) : PG X (.Subscript o i pos) (TMG Y (mgSub b fo fi)) :=
  pg_imp (pg_sub ho hi hs ha) fun v σ H Q q => by
    obtain ⟨ρ, τ, h, t, τ', h', G, r, e, to⟩ := q
    unfold mgSub at e
    cases e1 : fo τ h with
    | bad => simp only [e1] at e; cases e
    | ok ot h1 =>
      simp only [e1] at e
      cases e2 : fi τ h1 with
      | bad => simp only [e2] at e; cases e
      | ok it h2 =>
        simp only [e2] at e
        cases e3 : b ot it t h2 with
        | bad => simp only [e3] at e; cases e
        | ok u h3 =>
          simp only [e3] at e
          cases e
          refine ⟨ρ, τ, h, ot, h1, G, e1, ⟨fun ρ1 H1 vo ev hr1 ro => ⟨ρ1, τ, h1, it, h2, G.ev ev hr1, e2, ⟨fun ρ2 H2 vi ev2 hr2 ri => ?_⟩⟩⟩⟩
          exact st ρ2 H2 ot it t vo vi v h2 _ _ (ro.ev ev2.toEvR) ri (r.ev (ev.trans ev2).toEvR) hr2 e3 fun ρ3 H3 ev3 hr3 => to ρ3 H3 σ ((ev.trans ev2).trans ev3) hr3 (G.sl.ev ((ev.trans ev2).trans ev3).toEvR)
def sAsg (f : ME) (g : MG) : MS := fun τ h => match f τ h with
  | .ok t h1 => (match g t τ h1 with
    | .ok τ' h' => .nx τ' h'
    | .bad => .bad)
  | .bad => .bad
theorem tms_asg {f : ME} {g : MG} {D : Ends} {σ : St} {H : Hp} (q : TMS Y (sAsg f g) D σ H) : TM Y f σ H fun x H1 => TMG Y g x σ H1 D.nx := by
  obtain ⟨ρ, τ, h, G, to⟩ := q
  unfold sAsg at to
  cases e1 : f τ h with
  | bad => simp only [e1] at to; exact to.elim
  | ok t h1 =>
    simp only [e1] at to
    refine ⟨ρ, τ, h, t, h1, G, e1, ⟨fun ρ1 H1 v ev hr r => ?_⟩⟩
    cases e2 : g t τ h1 with
    | bad => simp only [e2] at to; exact to.elim
    | ok τ' h' =>
      simp only [e2] at to
      exact ⟨ρ1, τ, h1, t, τ', h', G.ev ev hr, r, e2, fun ρ2 H2 σ2 ev2 hr2 sl2 => to ρ2 H2 σ2 (ev.trans ev2) hr2 sl2⟩
theorem xsAsg {tg e : Expr} {f : ME} {g : MG} {pos : Pos} (he : PE X e (TM Y f)) (hg : PG X tg (TMG Y g)) (hs : swapsWithSole [tg] e pos.line X.env = pure false := by rfl) (hw : swappedStores [tg] e X.env = pure none := by rfl)
    (h1 : (assignEach [tg] X.env).map (·.2) = [assign tg X.env] := by rfl) : PS X (.Assign [tg] e pos) (TMS Y (sAsg f g)) := ps_imp (ps_asg he hg hs hw h1) fun D σ H q => tms_asg q
def sSet (i : Nat) (f : ME) : MS := fun τ h => match f τ h with
  | .ok t h1 => .nx (τ.set i (some t)) h1
  | .bad => .bad
theorem tms_set {i : Nat} {f : ME} {D : Ends} {σ : St} {H : Hp} (q : TMS Y (sSet i f) D σ H) : TM Y f σ H fun x H1 => D.nx (σ.set i (some x)) H1 := by
  obtain ⟨ρ, τ, h, G, to⟩ := q
  unfold sSet at to
  cases e1 : f τ h with
  | bad => simp only [e1] at to; exact to.elim
  | ok t h1 =>
    simp only [e1] at to
    exact ⟨ρ, τ, h, t, h1, G, e1, ⟨fun ρ1 H1 v ev hr r => to ρ1 H1 _ ev hr ((G.sl.ev ev.toEvR).set i r)⟩⟩
theorem xsSet {i : Nat} {x : Str} {e : Expr} {f : ME} {pos pos' : Pos} (hN : X.N.Nodup) (hi : X.N[i]? = some x) (hx : Loc X.env.scope x) (he : PE X e (TM Y f)) (hs : swapsWith e (some (.Name x pos')) pos.line X.env = pure false := by rfl) (hf : X.fn x = true ∨ X.env.scope.names.lookup x = some .local := by first | exact .inl rfl | exact .inr rfl | assumption) :
    PS X (.Assign [.Name x pos'] e pos) (TMS Y (sSet i f)) := ps_imp (ps_set hN hi hx he hs hf) fun D σ H q => tms_set q
def sPar (i j : Nat) (g : MA) : MS := fun τ h => match g τ h with
  | .ok [t, u] h1 => .nx ((τ.set i (some t)).set j (some u)) h1
  | _ => .bad
theorem xsPar {i j : Nat} {x y : Str} {a b : Expr} {g : MA} {px py pt pos : Pos} {kt k2 pt2} (hc : X.calm = true) (hN : X.N.Nodup) (hi : X.N[i]? = some x) (hj : X.N[j]? = some y) (hij : i ≠ j)
    (hx : X.env.scope.names.lookup x = some .local) (hy : X.env.scope.names.lookup y = some .local) (ha : PA X [a, b] (TMA Y g))
    (hw : swappedStores [.Tuple [.Name x px, .Name y py] kt pt] (.Tuple [a, b] k2 pt2) X.env = pure (some [x, y]) := by rfl)
    (hs : swapsWithSole [.Tuple [.Name x px, .Name y py] kt pt] (.Tuple [a, b] k2 pt2) pos.line X.env = pure false := by rfl) :
    PS X (.Assign [.Tuple [.Name x px, .Name y py] kt pt] (.Tuple [a, b] k2 pt2) pos) (TMS Y (sPar i j g)) := ps_imp (ps_par hc hN hi hj hij hx hy ha hw hs) fun D σ H q => by
  obtain ⟨ρ, τ, h, G, to⟩ := q
  unfold sPar at to
  split at to
  · rename_i t u h1 e1
    refine ⟨ρ, τ, h, [t, u], h1, G, e1, ⟨fun ρ1 H1 vs ev hr r => ?_⟩⟩
    cases r with
    | cons r1 r2 =>
      cases r2 with
      | cons r2 r3 =>
        cases r3
        exact ⟨_, _, rfl, to ρ1 H1 _ ev hr (((G.sl.ev ev.toEvR).set i r1).set j r2)⟩
  · exact to.elim
abbrev MI := TS_ → VH → Res (VH → Option (List T))
structure Wk (Y : Wd) (J : It) (rd : VH → Option (List T)) (ρ0 : Rh) (H0 : Hp) : Prop where
  go : ∀ ρ H h ts i t, EvR ρ0 H0 ρ H → HR Y ρ H h → rd h = some ts → ts[i]? = some t → J.go i H ∧ ∀ x H', J.yld i H x H' → Ev ρ H ρ H' ∧ HR Y ρ H' h ∧ Rp Y ρ H' t x
  stop : ∀ ρ H h ts i, EvR ρ0 H0 ρ H → HR Y ρ H h → rd h = some ts → ts.length ≤ i → J.stop i H
def TMI (Y : Wd) (f : MI) : TI := fun σ H R => ∃ ρ τ h rd h', Go Y ρ H τ σ h ∧ f τ h = .ok rd h' ∧ ∀ ρ' H' J, Ev ρ H ρ' H' → HR Y ρ' H' h' → Wk Y J rd ρ' H' → R J H'
theorem pi_imp {tg e : Expr} {t t' : TI} (h : PI X tg e t) (i : ∀ σ H Q, t' σ H Q → t σ H Q) : PI X tg e t' := ⟨fun pins s σ H R I q => h.run pins s σ H R I (i _ _ _ q)⟩
def forL (rd : VH → Option (List T)) (g : MG) (body : MS) (n : Nat) : Nat → Nat → TS_ → VH → Out
  | 0, _, τ, h => match rd h with
    | some ts => if ts.length = n then .nx τ h else .bad
    | none => .bad
  | k + 1, i, τ, h => match rd h with
    | some ts => if ts.length = n then (match ts[i]? with
      | some t => (match g t τ h with
        | .ok τ1 h1 => (match body τ1 h1 with
          | .nx τ2 h2 => forL rd g body n k (i + 1) τ2 h2
          | .ct τ2 h2 => forL rd g body n k (i + 1) τ2 h2
          | .bk τ2 h2 => .nx τ2 h2
          | o => o)
        | .bad => .bad)
      | none => .bad) else .bad
    | none => .bad
def sFor (mi : MI) (g : MG) (body : MS) : MS := fun τ h => match mi τ h with
  | .ok rd h1 => (match rd h1 with
    | some ts => forL rd g body ts.length ts.length 0 τ h1
    | none => .bad)
  | .bad => .bad
theorem tms_for {mi : MI} {g : MG} {body : MS} {D : Ends} {σ : St} {H : Hp} (q : TMS Y (sFor mi g body) D σ H) : tFor (TMI Y mi) (TMG Y g) (TMS Y body) D σ H := by
  obtain ⟨ρ, τ, h, G, to⟩ := q
  unfold sFor at to
  cases e1 : mi τ h with
  | bad => simp only [e1] at to; exact to.elim
  | ok rd h1 =>
    simp only [e1] at to
    refine ⟨ρ, τ, h, rd, h1, G, e1, fun ρ1 H1 J ev hr wk => ?_⟩
    cases e2 : rd h1 with
    | none => simp only [e2] at to; exact to.elim
    | some ts0 =>
      simp only [e2] at to
      refine ⟨fun i m σ H => i + m = ts0.length ∧ ∃ ρ2 τ2 h2, Ev ρ1 H1 ρ2 H ∧ Go Y ρ2 H τ2 σ h2 ∧ OutTo Y ρ2 H (forL rd g body ts0.length m i τ2 h2) D, ⟨ts0.length, by omega, ρ1, τ, h1, .refl, G.ev ev hr, to.ev ev⟩, ?_⟩
      rintro i m σ2 H2 ⟨him, ρ2, τ2, h2, ev2, G2, to2⟩
      cases m with
      | zero =>
        unfold forL at to2
        split at to2
        · rename_i ts ets
          split at to2
          · rename_i hl
            exact .inl ⟨wk.stop ρ2 H2 h2 ts i ev2.toEvR G2.hr ets (by omega), to2 ρ2 H2 σ2 .refl G2.hr G2.sl⟩
          · exact to2.elim
        · exact to2.elim
      | succ m =>
        unfold forL at to2
        split at to2
        · rename_i ts ets
          split at to2
          · rename_i hl
            split at to2
            · rename_i t et
              obtain ⟨go, yl⟩ := wk.go ρ2 H2 h2 ts i t ev2.toEvR G2.hr ets et
              refine .inr ⟨go, fun σ' H' => ∃ ρ3 τ3 h3, Ev ρ1 H1 ρ3 H' ∧ Go Y ρ3 H' τ3 σ' h3 ∧ OutTo Y ρ3 H' (forL rd g body ts0.length m (i + 1) τ3 h3) D, fun σ' H' hh => ⟨m, by omega, by omega, hh⟩, fun x H3 hy => ?_⟩
              obtain ⟨ev3, hr3, r3⟩ := yl x H3 hy
              split at to2
              · rename_i τ4 h4 e4
                refine ⟨ρ2, τ2, h2, t, τ4, h4, ⟨G2.sl.ev ev3.toEvR, hr3⟩, r3, e4, fun ρ5 H5 σ5 ev5 hr5 sl5 => ⟨ρ5, τ4, h4, ⟨sl5, hr5⟩, ?_⟩⟩
                have to3 := to2.ev (ev3.trans ev5)
                have evv := ev2.trans (ev3.trans ev5)
                cases e6 : body τ4 h4 with
                | nx τ6 h6 =>
                  simp only [e6] at to3
                  exact fun ρ7 H7 σ7 ev7 hr7 sl7 => ⟨ρ7, τ6, h6, evv.trans ev7, ⟨sl7, hr7⟩, to3.ev ev7⟩
                | ct τ6 h6 =>
                  simp only [e6] at to3
                  exact fun ρ7 H7 σ7 ev7 hr7 sl7 => ⟨ρ7, τ6, h6, evv.trans ev7, ⟨sl7, hr7⟩, to3.ev ev7⟩
                | bk τ6 h6 =>
                  simp only [e6] at to3
                  exact to3
                | rt t6 h6 =>
                  simp only [e6] at to3
                  exact to3
                | bad =>
                  simp only [e6] at to3
                  exact to3.elim
              · exact to2.elim
            · exact to2.elim
          · exact to2.elim
        · exact to2.elim
theorem xsFor {tg iter : Expr} {body : List Stmt} {mi : MI} {g : MG} {f : MS} {pos : Pos} (hp : PassesOwn (model X.prog X.w) X.A X.env X.xe) (hc : X.calm = true) (hi : PI X tg iter (TMI Y mi)) (hg : PG X tg (TMG Y g)) (hb : PSs X body (TMS Y f))
    (hs : ∀ x, foldedSetIterable iter X.env x = pure x := by intro _; rfl) : PS X (.For tg iter body [] pos) (TMS Y (sFor mi g f)) := ps_imp (ps_for hp hc hi hg hb hs) fun D σ H q => tms_for q
def whileL (c : MB) (body : MS) : Nat → TS_ → VH → Out
  | 0, _, _ => .bad
  | k + 1, τ, h => match c τ h with
    | .ok false h1 => .nx τ h1
    | .ok true h1 => (match body τ h1 with
      | .nx τ2 h2 => whileL c body k τ2 h2
      | .ct τ2 h2 => whileL c body k τ2 h2
      | .bk τ2 h2 => .nx τ2 h2
      | o => o)
    | .bad => .bad
theorem xsWhile {c : Expr} {body : List Stmt} {m : MB} {f : MS} {pos : Pos} (n : Nat) (hp : PassesOwn (model X.prog X.w) X.A X.env X.xe) (hc : PT X c (TMB Y m)) (hb : PSs X body (TMS Y f)) : PS X (.While c body [] pos) (TMS Y (whileL m f n)) := ps_imp (ps_while hp hc hb) fun D σ H q => by
  refine ⟨fun k σ H => ∃ ρ τ h, Go Y ρ H τ σ h ∧ OutTo Y ρ H (whileL m f k τ h) D, ⟨n, q⟩, ?_⟩
  rintro k σ1 H1 ⟨ρ, τ, h, G, to⟩
  cases k with
  | zero => exact to.elim
  | succ k =>
    unfold whileL at to
    split at to
    · rename_i h1 e1
      exact ⟨ρ, τ, h, false, h1, G, e1, ⟨fun ρ1 H1 b ev hr eb => by subst eb; exact iteF (to ρ1 H1 σ1 ev hr (G.sl.ev ev.toEvR))⟩⟩
    · rename_i h1 e1
      refine ⟨ρ, τ, h, true, h1, G, e1, ⟨fun ρ1 H2 b ev hr eb => ?_⟩⟩
      subst eb
      refine iteT ⟨fun σ' H' => ∃ ρ3 τ3 h3, Go Y ρ3 H' τ3 σ' h3 ∧ OutTo Y ρ3 H' (whileL m f k τ3 h3) D, fun σ' H' hh => ⟨k, by omega, hh⟩, ρ1, τ, h1, G.ev ev hr, ?_⟩
      have to3 := to.ev ev
      cases e6 : f τ h1 with
      | nx τ6 h6 =>
        simp only [e6] at to3
        exact fun ρ7 H7 σ7 ev7 hr7 sl7 => ⟨ρ7, τ6, h6, ⟨sl7, hr7⟩, to3.ev ev7⟩
      | ct τ6 h6 =>
        simp only [e6] at to3
        exact fun ρ7 H7 σ7 ev7 hr7 sl7 => ⟨ρ7, τ6, h6, ⟨sl7, hr7⟩, to3.ev ev7⟩
      | bk τ6 h6 => simp only [e6] at to3; exact to3
      | rt t6 h6 => simp only [e6] at to3; exact to3
      | bad => simp only [e6] at to3; exact to3.elim
    · exact to.elim
def wipeT (τ : TS_) : List Nat → TS_
  | [] => τ
  | v :: vs => (wipeT τ vs).set v none
theorem Sl.unset {ρ : Rh} {H : Hp} {τ : TS_} {σ : St} (s : Sl Y ρ H τ σ) (i : Nat) : Sl Y ρ H (τ.set i none) (σ.set i none) := by
  refine ⟨by simp [s.1], fun j t' h => ?_⟩
  by_cases hj : i = j
  · subst hj
    have hi : i < τ.length := by
      have := (List.getElem?_eq_some_iff.mp h).1
      simpa using this
    rw [List.getElem?_set_self hi] at h
    cases h
  · rw [List.getElem?_set_ne hj] at h ⊢
    exact s.2 j t' h
theorem Sl.wipe {ρ : Rh} {H : Hp} {τ : TS_} {σ : St} (s : Sl Y ρ H τ σ) : ∀ vs : List Nat, Sl Y ρ H (wipeT τ vs) (wipe σ vs)
  | [] => s
  | v :: vs => (s.wipe vs).unset v
theorem set_same {α : Type} (l : List α) (i : Nat) (a b : α) : (l.set i a).set i b = l.set i b := by simp
theorem wipe_set {σ : St} {v : V} : ∀ {vs : List Nat} {i : Nat}, i ∈ vs → wipe (σ.set i (some v)) vs = wipe σ vs
  | w :: vs, i, h => by
    unfold wipe
    by_cases hi : i = w
    · subst hi
      by_cases hm : i ∈ vs
      · rw [wipe_set hm]
      · have : ∀ (us : List Nat), i ∉ us → wipe (σ.set i (some v)) us = (wipe σ us).set i (some v) := by
          intro us
          induction us with
          | nil => intro _; rfl
          | cons u us ih =>
            intro hu
            unfold wipe
            rw [ih (fun z => hu (List.mem_cons_of_mem _ z)), List.set_comm _ _ (fun z => hu (by rw [z]; exact List.mem_cons_self))]
        rw [this vs hm, set_same]
    · rw [wipe_set ((List.mem_cons.mp h).resolve_left hi)]
end
end TL
namespace TL
open PySem PySem.Spec L2
open PyProof.Rows (envOfC)
section
variable {X : Cx} {Y : Wd}
def TMGW (Y : Wd) (g : MG) (ws : List Nat) : TG := fun v σ H Q => ∃ ρ τ h t τ' h', Go Y ρ H τ σ h ∧ Rp Y ρ H t v ∧ g t τ h = .ok τ' h' ∧ ∀ ρ' H' σ', Ev ρ H ρ' H' → HR Y ρ' H' h' → Sl Y ρ' H' τ' σ' → wipe σ' ws = wipe σ ws → Q σ' H'
def TMGsW (Y : Wd) (g : MGs) (ws : List Nat) : TGs := fun v σ H Q => ∃ ρ τ h t τ' h', Go Y ρ H τ σ h ∧ Rps Y ρ H t v ∧ g t τ h = .ok τ' h' ∧ ∀ ρ' H' σ', Ev ρ H ρ' H' → HR Y ρ' H' h' → Sl Y ρ' H' τ' σ' → wipe σ' ws = wipe σ ws → Q σ' H'
theorem wgName {i : Nat} {ws : List Nat} {x : Str} {pos : Pos} (hm : i ∈ ws) (hN : X.N.Nodup) (hi : X.N[i]? = some x) (hx : Loc X.env.scope x) (hf : X.fn x = true ∨ X.env.scope.names.lookup x = some .local := by first | exact .inl rfl | exact .inr rfl | assumption) : PG X (.Name x pos) (TMGW Y (mgName i) ws) :=
  pg_imp (pg_name hN hi hx hf) fun v σ H Q q => by
    obtain ⟨ρ, τ, h, t, τ', h', G, r, e, to⟩ := q
    cases e
    exact to ρ H _ .refl G.hr (G.sl.set i r) (wipe_set hm)
theorem wgsNil {ws : List Nat} : PGs X [] (TMGsW Y mgsNil ws) := pgs_imp pgs_nil fun v σ H Q q => by
  obtain ⟨ρ, τ, h, t, τ', h', G, r, e, to⟩ := q
  cases r with
  | nil => cases e; exact ⟨rfl, to ρ H _ .refl G.hr G.sl rfl⟩
  | cons a b => cases e
theorem wgsCons {ws : List Nat} {e : Expr} {es : List Expr} {g : MG} {gs : MGs} (h1 : PG X e (TMGW Y g ws)) (h2 : PGs X es (TMGsW Y gs ws)) (hs : (assignEach (e :: es) X.env).map (·.2) = assign e X.env :: (assignEach es X.env).map (·.2) := by rfl) : PGs X (e :: es) (TMGsW Y (mgsCons g gs) ws) :=
  pgs_imp (pgs_cons h1 h2 hs) fun v σ H Q q => by
    obtain ⟨ρ, τ, h, t, τ', h', G, r, e, to⟩ := q
    cases r with
    | nil => cases e
    | cons a b =>
      unfold mgsCons at e
      dsimp only at e
      split at e
      · rename_i τ1 h1 e1
        exact ⟨_, _, rfl, ρ, τ, h, _, τ1, h1, G, a, e1, fun ρ1 H1 σ1 ev hr sl w1 => ⟨ρ1, τ1, h1, _, τ', h', ⟨sl, hr⟩, b.ev ev.toEvR, e, fun ρ2 H2 σ2 ev2 hr2 sl2 w2 => to ρ2 H2 σ2 (ev.trans ev2) hr2 sl2 (w2.trans w1)⟩⟩
      · cases e
theorem wgTup {ws : List Nat} {es : List Expr} {k : Nat} {gs : MGs} {n : Nat} {pos : Pos} (hc : X.calm = true) (hK : X.K = Y.K) (h : PGs X es (TMGsW Y gs ws)) (hn : (assignEach es X.env).length = n := by rfl) (hst : (assignEach es X.env).findIdx? (·.1) = none := by rfl) : PG X (.Tuple es k pos) (TMGW Y (mgTup n gs) ws) :=
  pg_imp (pg_tup hc h hn hst) fun v σ H Q q => by
    obtain ⟨ρ, τ, h, t, τ', h', G, r, e, to⟩ := q
    unfold mgTup at e
    split at e
    · split at e
      · rename_i ts hl
        cases r with
        | tup ta rs => exact ⟨_, _, rfl, by rw [hK]; exact ta.sq, by rw [rs.length]; exact hl, ρ, τ, h, ts, τ', h', G, rs, e, to⟩
      · cases e
    · cases e
def bYes : MB := fun _ h => .ok true h
theorem pts_imp {e : List Expr} {t t' : TT} (h : PTs X e t) (i : ∀ σ H Q, t' σ H Q → t σ H Q) : PTs X e t' := ⟨fun pins s σ H Q I q => h.run pins s σ H Q I (i _ _ _ q)⟩
theorem xtsNil : PTs X [] (TMB Y bYes) := pts_imp pts_nil fun σ H Q q => by
  obtain ⟨ρ, τ, h, u, h', G, e, to⟩ := q
  cases e
  exact to.to ρ H _ .refl G.hr rfl
theorem xtsOne {c : Expr} {m : MB} (h : PT X c (TMB Y m)) : PTs X [c] (TMB Y m) := pts_one h
def lcL (rd : VH → Option (List T)) (g : MG) (c : MB) (e : ME) (τ : TS_) (n : Nat) : Nat → Nat → List T → VH → Res (List T)
  | 0, _, acc, h => match rd h with
    | some ts => if ts.length = n then .ok acc h else .bad
    | none => .bad
  | k + 1, i, acc, h => match rd h with
    | some ts => if ts.length = n then (match ts[i]? with
      | some t => (match g t τ h with
        | .ok τ1 h1 => (match c τ1 h1 with
          | .ok true h2 => (match e τ1 h2 with
            | .ok y h3 => lcL rd g c e τ n k (i + 1) (acc ++ [y]) h3
            | .bad => .bad)
          | .ok false h2 => lcL rd g c e τ n k (i + 1) acc h2
          | .bad => .bad)
        | .bad => .bad)
      | none => .bad) else .bad
    | none => .bad
def mLc (mi : MI) (ws : List Nat) (g : MG) (c : MB) (e : ME) : MA := fun τ h => match mi τ h with
  | .ok rd h1 => (match rd h1 with
    | some ts => if ts.length ≤ 16777216 then lcL rd g c e (wipeT τ ws) ts.length ts.length 0 [] h1 else .bad
    | none => .bad)
  | .bad => .bad
theorem wipe_idem (σ : St) : ∀ ws : List Nat, wipe (wipe σ ws) ws = wipe σ ws := by
  have one : ∀ (ws : List Nat) (u : Nat), u ∈ ws → (wipe σ ws).set u none = wipe σ ws := by
    intro ws u
    induction ws with
    | nil => intro hm; cases hm
    | cons w ws ih2 =>
      intro hm
      show ((wipe σ ws).set w none).set u none = (wipe σ ws).set w none
      by_cases hw : u = w
      · subst hw; simp
      · rw [List.set_comm _ _ (fun z => hw z.symm), ih2 ((List.mem_cons.mp hm).resolve_left hw)]
  have key : ∀ (us ws : List Nat), (∀ u ∈ us, u ∈ ws) → wipe (wipe σ ws) us = wipe σ ws := by
    intro us
    induction us with
    | nil => intro ws _; rfl
    | cons u us ih =>
      intro ws h
      show (wipe (wipe σ ws) us).set u none = wipe σ ws
      rw [ih ws fun v hv => h v (List.mem_cons_of_mem _ hv)]
      exact one ws u (h u List.mem_cons_self)
  exact fun ws => key ws ws fun _ h => h
theorem Sl.updb {ρ : Rh} {H : Hp} {τ : TS_} {σ : St} {p : Addr} {o : HO} (hp : p ∈ ρ.bn) (s : Sl Y ρ H τ σ) : Sl Y ρ (upd H p o) τ σ := ⟨s.1, fun i t h => let ⟨v, a, b⟩ := s.2 i t h; ⟨v, a, b.updb hp⟩⟩
theorem ban_split {ρ1 ρ2 ρ' : Rh} {H1 H2 H' : Hp} {D : Addr} (hD : H1 D = none) (a : Ev ρ1 H1 ρ2 H2) (b : Ev (ρ2.ban D) H2 ρ' H') : ∃ ρ8 : Rh, ρ' = ρ8.ban D ∧ Ev ρ1 H1 ρ8 H' := by
  obtain ⟨ix, bn⟩ := ρ'
  have e : bn = D :: ρ2.bn := b.bn
  subst e
  refine ⟨⟨ix, ρ2.bn⟩, rfl, a.trans ?_⟩
  exact .mk' b.more rfl b.keep b.there b.fz
theorem Ev.updf {ρ ρ' : Rh} {H H' : Hp} {D : Addr} {o : HO} (hD : H D = none) (e : Ev ρ H ρ' H') : Ev ρ H ρ' (upd H' D o) :=
  .mk' e.more e.bn (fun b u z n nt => by rw [upd_ne (ne_of_none z hD)]; exact e.keep b u z n nt) (fun b z => by
    by_cases q : b = D
    · rw [q, upd_same]; simp
    · rw [upd_ne q]; exact e.there b z) fun b x u z => by rw [upd_ne (ne_of_none z hD)]; exact e.fz b x u z
theorem tm_lc {mi : MI} {g : MG} {c : MB} {e : ME} {ws : List Nat} {σ : St} {H : Hp} {Q : VK} (q : TMF Y (mLc mi ws g c e) σ H Q) : tLc (TMI Y mi) (TMGW Y g ws) (TMB Y c) (TM Y e) ws σ H Q := by
  obtain ⟨ρ, τ, h, ys, h', G, e0, to⟩ := q
  unfold mLc at e0
  cases e1 : mi τ h with
  | bad => simp only [e1] at e0; cases e0
  | ok rd h1 =>
    simp only [e1] at e0
    refine ⟨ρ, τ, h, rd, h1, G, e1, fun ρ1 H1 J ev hr wk => ?_⟩
    cases e2 : rd h1 with
    | none => simp only [e2] at e0; cases e0
    | some ts0 =>
      simp only [e2] at e0
      split at e0
      case isFalse => cases e0
      rename_i hz0
      intro D hD
      have hD0 : H D = none := ev.fresh hD
      have slw : Sl Y ρ1 H1 (wipeT τ ws) (wipe σ ws) := (G.sl.ev ev.toEvR).wipe ws
      have slb : Sl Y (ρ1.ban D) (upd H1 D (.lst [])) (wipeT τ ws) (wipe σ ws) := ⟨slw.1, fun i t ht => let ⟨v, a, b⟩ := slw.2 i t ht; ⟨v, a, (b.ban hD).updb List.mem_cons_self⟩⟩
      have ev0 : Ev ρ1 H1 ρ1 (upd H1 D (.lst [])) := Ev.new hD
      refine ⟨fun i m H => i + m = ts0.length ∧ ∃ ρ2 h2 acc vs, Ev ρ1 H1 ρ2 H ∧ Sl Y (ρ2.ban D) H (wipeT τ ws) (wipe σ ws) ∧ HR Y (ρ2.ban D) H h2 ∧ H D = some (.lst vs) ∧ Rps Y (ρ2.ban D) H acc vs ∧ acc.length ≤ i ∧ lcL rd g c e (wipeT τ ws) ts0.length m i acc h2 = .ok ys h',
        ⟨ts0.length, by omega, ρ1, h1, [], [], ev0, slb, hr.begin hD, upd_same, .nil, Nat.le_refl _, e0⟩, ?_⟩
      rintro i m H2 ⟨him, ρ2, h2, acc, vs, ev2, sl2, hr2, hd2, rs2, hl2, e3⟩
      have mb : D ∈ (ρ2.ban D).bn := List.mem_cons_self
      have nix2 : D ∉ (ρ2.ban D).ix := (hr2.bt D mb).2
      cases m with
      | zero =>
        unfold lcL at e3
        split at e3
        · rename_i ts ets
          split at e3
          · rename_i hl
            cases e3
            have hn : vs.length ≤ sizeLine := by rw [rs2.length, sizeLine_eq]; omega
            have nix : D ∉ ρ2.ix := (hr2.bt D mb).2
            have nb : D ∉ ρ2.bn := fun z => by
              rw [ev2.bn] at z
              exact (hr.bt D z).1 hD
            exact .inl ⟨wk.stop ρ2 H2 _ ts i ev2.toEvR hr2.unban ets (by omega), to ρ2 H2 D vs (ev.trans ev2) hr2.unban hD0 ⟨hn, ⟨nix, nb⟩, hd2⟩ rs2.unban (hr2.topush nb ⟨vs, hd2, hn, rs2.topush⟩)⟩
          · cases e3
        · cases e3
      | succ m =>
        unfold lcL at e3
        split at e3
        · rename_i ts ets
          split at e3
          · rename_i hl
            split at e3
            · rename_i t et
              obtain ⟨go, yl⟩ := wk.go (ρ2.ban D) H2 h2 ts i t (ev2.toEvR.ban hD) hr2 ets et
              refine .inr ⟨go, fun H' => ∃ ρ3 h3 acc3 vs3, Ev ρ1 H1 ρ3 H' ∧ Sl Y (ρ3.ban D) H' (wipeT τ ws) (wipe σ ws) ∧ HR Y (ρ3.ban D) H' h3 ∧ H' D = some (.lst vs3) ∧ Rps Y (ρ3.ban D) H' acc3 vs3 ∧ acc3.length ≤ i + 1 ∧ lcL rd g c e (wipeT τ ws) ts0.length m (i + 1) acc3 h3 = .ok ys h',
                fun H' hh => ⟨m, by omega, by omega, hh⟩, fun x H3 hy => ?_⟩
              obtain ⟨ev3, hr3, r3⟩ := yl x H3 hy
              split at e3
              case h_2 => cases e3
              rename_i τ4 h4 e4
              refine ⟨ρ2.ban D, wipeT τ ws, h2, t, τ4, h4, ⟨sl2.ev ev3.toEvR, hr3⟩, r3, e4, fun ρ5 H5 σ5 ev5 hr5 sl5 w5 => ?_⟩
              refine ⟨by rw [w5]; exact wipe_idem σ ws, ?_⟩
              have ev35 := ev3.trans ev5
              split at e3
              case h_3 => cases e3
              · rename_i h6 e6
                split at e3
                case h_2 => cases e3
                rename_i y h7 e7
                refine ⟨ρ5, τ4, h4, true, h6, ⟨sl5, hr5⟩, e6, ⟨fun ρ6 H6 b ev6 hr6 eb => ?_⟩⟩
                subst eb
                refine iteT ⟨ρ6, τ4, h6, y, h7, ⟨sl5.ev ev6.toEvR, hr6⟩, e7, ⟨fun ρ7 H7 v ev7 hr7 r7 => ?_⟩⟩
                have eva := (ev35.trans ev6).trans ev7
                have hd7 : H7 D = some (.lst vs) := eva.keep D _ hd2 nix2 (fun _ z => by cases z)
                obtain ⟨ρ8, rfl, ev8⟩ := ban_split hD ev2 eva
                have mb7 : D ∈ (ρ8.ban D).bn := List.mem_cons_self
                refine ⟨vs, hd7, by rw [rs2.length, sizeLine_eq]; omega, ρ8, h7, acc ++ [y], vs ++ [v], ev8.updf hD, ?_, hr7.updb mb7, upd_same, ((rs2.ev eva.toEvR).snoc r7).updb mb7, by simp; omega, e3⟩
                exact (sl2.ev eva.toEvR).updb mb7
              · rename_i h6 e6
                refine ⟨ρ5, τ4, h4, false, h6, ⟨sl5, hr5⟩, e6, ⟨fun ρ6 H6 b ev6 hr6 eb => ?_⟩⟩
                subst eb
                refine iteF ?_
                have eva := ev35.trans ev6
                have hd7 : H6 D = some (.lst vs) := eva.keep D _ hd2 nix2 (fun _ z => by cases z)
                obtain ⟨ρ8, rfl, ev8⟩ := ban_split hD ev2 eva
                exact ⟨ρ8, h6, acc, vs, ev8, sl2.ev eva.toEvR, hr6, hd7, rs2.ev eva.toEvR, by omega, e3⟩
            · cases e3
          · cases e3
        · cases e3
theorem pe_tmf {e : Expr} {t : TE} {f : MA} (h : PE X e t) (i : ∀ σ H Q, TMF Y f σ H Q → t σ H Q) : PE X e (TMF Y f) := pe_imp h i
theorem xLc {elt tg iter : Expr} {ifs : List Expr} {scope : Scope} {own : List (Str × Nat)} {pos : Pos} {mi : MI} {g : MG} {c : MB} {f : ME} (hc : X.calm = true) (hN : X.N.Nodup) (hi : PI X tg iter (TMI Y mi)) (ok : BlkOk X.N X.env.scope scope own)
    (hg : ∀ (s : Shared) (H : Hp) (C : Addr) (cl : List (Str × Addr)) (fp : List Addr), PG (X.blk s H scope (compEnvC scope cl C X.env) fp) tg (TMGW Y g (own.map (·.2)))) (ht : ∀ (s : Shared) (H : Hp) (C : Addr) (cl : List (Str × Addr)) (fp : List Addr), PTs (X.blk s H scope (compEnvC scope cl C X.env) fp) ifs (TMB Y c))
    (he : ∀ (s : Shared) (H : Hp) (C : Addr) (cl : List (Str × Addr)) (fp : List Addr), PE (X.blk s H scope (compEnvC scope cl C X.env) fp) elt (TM Y f)) (hs : ∀ x, foldedSetIterable iter X.env x = pure x := by intro _; rfl) :
    PE X (.ListComp elt [⟨tg, iter, ifs, 0⟩] scope pos) (TMF Y (mLc mi (own.map (·.2)) g c f)) := pe_tmf (pe_lc hc hN hi ok hg ht he hs) fun σ H Q q => tm_lc q
theorem xsSetLcL {i : Nat} {y : Str} {py : Pos} {elt tg iter : Expr} {ifs : List Expr} {scope : Scope} {own : List (Str × Nat)} {pos spos : Pos} {mi : MI} {g : MG} {c : MB} {f : ME} (hc : X.calm = true) (hN : X.N.Nodup) (hy : X.N[i]? = some y) (hyl : X.env.scope.names.lookup y = some .local)
    (hsw : swapsWith (.ListComp elt [⟨tg, iter, ifs, 0⟩] scope pos) (some (.Name y py)) spos.line X.env = pure true) (hi : PI X tg iter (TMI Y mi)) (ok : BlkOk X.N X.env.scope scope own)
    (hg : ∀ (s : Shared) (H : Hp) (C : Addr) (cl : List (Str × Addr)) (fp : List Addr), PG (X.blk s H scope (compEnvC scope cl C X.env) fp) tg (TMGW Y g (own.map (·.2)))) (ht : ∀ (s : Shared) (H : Hp) (C : Addr) (cl : List (Str × Addr)) (fp : List Addr), PTs (X.blk s H scope (compEnvC scope cl C X.env) fp) ifs (TMB Y c))
    (he : ∀ (s : Shared) (H : Hp) (C : Addr) (cl : List (Str × Addr)) (fp : List Addr), PE (X.blk s H scope (compEnvC scope cl C X.env) fp) elt (TM Y f)) (hs : ∀ x, foldedSetIterable iter X.env x = pure x := by intro _; rfl) :
    PS X (.Assign [.Name y py] (.ListComp elt [⟨tg, iter, ifs, 0⟩] scope pos) spos) (TMS Y (sSet i (eL (mLc mi (own.map (·.2)) g c f)))) := ps_imp (ps_setLc hc hN hy hyl hsw hi ok hg ht he hs) fun D σ H q => by
  obtain ⟨ρ, τ, h, ts, h', G, e, to⟩ := tms_set q
  unfold eL at e
  cases e1 : mLc mi (own.map (·.2)) g c f τ h with
  | bad => simp only [e1] at e; cases e
  | ok us h1 =>
    simp only [e1] at e
    cases e
    exact tm_lc ⟨ρ, τ, h, us, _, G, e1, fun ρ' H' D' vs ev hr hD la rs _ => to.to ρ' H' _ ev hr (.lst la rs)⟩
def spM (Y : Wd) (m : List T → VH → Res T) : Sp := fun vs H Q _ => ∃ ρ ts h t h', Rps Y ρ H ts vs ∧ HR Y ρ H h ∧ m ts h = .ok t h' ∧ To Y (Rp Y) ρ H t h' Q
def startT (n : Nat) (ts : List T) : TS_ := ts.map some ++ List.replicate (n - ts.length) none
def defM (n p : Nat) (f : MS) : List T → VH → Res T := fun ts h => if ts.length = p then (match f (startT n ts) h with
  | .nx _ h' => .ok .non h'
  | .rt t h' => .ok t h'
  | _ => .bad) else .bad
theorem sl_start {ρ : Rh} {H : Hp} {ts : List T} {vs : List V} {N : List Str} (r : Rps Y ρ H ts vs) : Sl Y ρ H (startT N.length ts) (L2.start N vs) := by
  have hl := r.length
  refine ⟨by simp [startT, L2.start, hl], fun i t e => ?_⟩
  unfold startT at e
  by_cases hi : i < ts.length
  · rw [List.getElem?_append_left (by simpa using hi), List.getElem?_map] at e
    cases q : ts[i]? with
    | none => rw [q] at e; cases e
    | some u =>
      rw [q] at e
      cases e
      obtain ⟨v, hv, rv⟩ := r.get q
      refine ⟨v, ?_, rv⟩
      unfold L2.start
      rw [List.getElem?_append_left (by simp [hl]; exact hi), List.getElem?_map, hv]
      rfl
  · rw [List.getElem?_append_right (by simpa using Nat.le_of_not_lt hi), List.getElem?_replicate] at e
    split at e <;> cases e
theorem fnM {P : Program} {w : World} {K : PySem.W.Frag} {mg : Str → Option Value} {base : Heap} {x qual : Str} {params : Arguments} {body : List Stmt} {scope : Scope} {dvs : List V} {kws : List (Str × V)} {f : Addr} {fd : FuncData} {N ps : List Str} {k : Nat} {g : MS}
    (F : FunD K x qual params body scope dvs kws f fd) (S : FnScope N ps scope) (n p : Nat) (hn : N.length = n := by rfl) (hp : ps.length = p := by rfl)
    (hb : ∀ (cdv : Value) (A : Around) (outer : List Env) (s : Shared) (H : Hp) (E : XK), Room k (A.deeper (envOfC qual scope s.heap.objs.size f cdv)) → PSs (cxOf CX0 P w K mg base N qual scope f cdv A outer s H E).nox body (TMS Y g)) :
    FnOk P w K mg base CX0 (k + 1) f fd ps (spM Y (defM n p g)) := by
  subst hn hp
  refine F.ok S (fun vs H Q E h => ?_) (fun cdv A outer s H vs Q E hr h => ⟨TMS Y g, (hb cdv A outer s H E hr).nox, ?_⟩)
  · obtain ⟨ρ, ts, hh, t, h', r, hr, e, to⟩ := h
    unfold defM at e
    split at e
    · rename_i hl
      rw [r.length]; exact hl
    · cases e
  · obtain ⟨ρ, ts, hh, t, h', r, hr, e, to⟩ := h
    unfold defM at e
    split at e
    · rename_i hl
      refine ⟨ρ, startT N.length ts, hh, ⟨sl_start r, hr⟩, ?_⟩
      cases q : g (startT N.length ts) hh with
      | nx τ' h1 =>
        simp only [q] at e
        cases e
        exact fun ρ' H' σ' ev hr' sl => to.to ρ' H' .non ev hr' .non
      | rt u h1 =>
        simp only [q] at e
        cases e
        exact fun ρ' H' v ev hr' r' => to.to ρ' H' v ev hr' r'
      | bk τ' h1 => simp only [q] at e; cases e
      | ct τ' h1 => simp only [q] at e; cases e
      | bad => simp only [q] at e; cases e
    · cases e
theorem ct_sp {m : List T → VH → Res T} (E : XK) : CT Y (fun vs H Q => spM Y m vs H Q E) m := fun ρ H ts vs h t h' Q r hr e to => ⟨ρ, ts, h, t, h', r, hr, e, to⟩
theorem xCall {k : Nat} {f : Addr} {fd : FuncData} {ps : List Str} {m : List T → VH → Res T} {x : Str} {p pos : Pos} {e : Expr} {es : List Expr} {g : MA} (F : FnOk X.prog X.w X.K X.mg X.base CX0 k f fd ps (spM Y m)) (hr : Room k X.A) (hg : Gl X x) (hm : X.mg x = some (.ref f)) (hk : PySem.W.keepIn X.K (.ref f) = true) (hb : Binds X.K fd ps [])
    (ha : PA X (e :: es) (TMA Y g)) (hdb : (x == ("__debug__" : Str)) = false := by decide) (he : starEach (e :: es) X.env = (false, eval e X.env) :: starEach es X.env := by rfl) (hpl : (backTo pos (starEach es X.env)).any (·.1) = false := by rfl) :
    PE X (.Call (.Name x p) (e :: es) [] pos) (TM Y (eCall m g)) := pe_imp (pe_call F hr hg hm hk hb .nil pass0 ha hdb he hpl) fun σ H Q q => by
  have z := tm_call (ct_sp (m := m) E0) q
  obtain ⟨ρ, τ, h, t, h1, G, e1, to⟩ := z
  exact ⟨ρ, τ, h, t, h1, G, e1, ⟨fun ρ' H' v ev hr r => by rw [List.append_nil]; exact to.to ρ' H' v ev hr r⟩⟩
mutual
def T.lowR (n : Nat) : T → Bool
  | .tup ts => lowRs n ts
  | .arg ts => lowRs n ts
  | .tpx ts => lowRs n ts
  | .exc _ _ _ _ fs => lowRs n fs
  | .lst ts => lowRs n ts
  | .obj _ fs => lowRs n fs
  | .ref k => decide (k < n)
  | _ => true
def lowRs (n : Nat) : List T → Bool
  | [] => true
  | t :: ts => t.lowR n && lowRs n ts
end
end
end TL
namespace TL
open PySem PySem.Spec L2
open PyProof.Rows (envOfC)
section
variable {Y : Wd} {ρ ρ' : Rh} {H H' : Hp}
mutual
theorem Rp.low : ∀ {t : T} {v : V}, Rp Y ρ H t v → t.lowR ρ.ix.length = true
  | _, _, .non => rfl
  | _, _, .bl b => rfl
  | _, _, .int i => rfl
  | _, _, .str h => rfl
  | _, _, .tup h r => by simp only [T.lowR]; exact r.lows
  | _, _, .arg h r => by simp only [T.lowR]; exact r.lows
  | _, _, .tpx h r => by simp only [T.lowR]; exact r.lows
  | _, _, .exc h nm r => by simp only [T.lowR]; exact r.lows
  | _, _, .lst h r => by simp only [T.lowR]; exact r.lows
  | _, _, .obj c n h nm r => by simp only [T.lowR]; exact r.lows
  | _, _, .ref h => by simp only [T.lowR]; exact decide_eq_true (List.getElem?_eq_some_iff.mp h).1
theorem Rps.lows : ∀ {ts : List T} {vs : List V}, Rps Y ρ H ts vs → lowRs ρ.ix.length ts = true
  | _, _, .nil => rfl
  | _, _, .cons a b => by simp only [lowRs, a.low, b.lows, Bool.and_self]
end
structure Sub (ρ ρ' : Rh) : Prop where
  ix : ∃ m, ρ'.ix = ρ.ix ++ m
  bn : ρ'.bn = ρ.bn
theorem Sub.out (s : Sub ρ ρ') {a : Addr} (h : ρ'.out a) : ρ.out a := by
  obtain ⟨m, e⟩ := s.ix
  exact ⟨fun z => h.1 (by rw [e]; exact List.mem_append_left _ z), fun z => h.2 (by rw [s.bn]; exact z)⟩
mutual
theorem Rp.down (s : Sub ρ ρ') : ∀ {t : T} {v : V}, Rp Y ρ' H t v → t.lowR ρ.ix.length = true → Rp Y ρ H t v
  | _, _, .non, _ => .non
  | _, _, .bl b, _ => .bl b
  | _, _, .int i, _ => .int i
  | _, _, .str h, _ => .str h
  | _, _, .tup h r, q => by simp only [T.lowR] at q; exact .tup ⟨h.1, h.2.elim (fun z => .inl ⟨s.out z.1, z.2⟩) .inr⟩ (r.down s q)
  | _, _, .arg h r, q => by simp only [T.lowR] at q; exact .arg ⟨h.1, h.2.elim (fun z => .inl ⟨s.out z.1, z.2⟩) .inr⟩ (r.down s q)
  | _, _, .tpx h r, q => by simp only [T.lowR] at q; exact .tpx (h.to s.out fun _ _ => rfl) (r.down s q)
  | _, _, .exc h nm r, q => by simp only [T.lowR] at q; exact .exc (h.to (fun _ _ o _ => s.out o) fun _ _ _ z => z) nm (r.down s q)
  | _, _, .lst h r, q => by simp only [T.lowR] at q; exact .lst ⟨h.1, s.out h.2.1, h.2.2⟩ (r.down s q)
  | _, _, .obj c n h nm r, q => by simp only [T.lowR] at q; exact .obj c (s.out n) h nm (r.down s q)
  | _, _, .ref h, q => by
    simp only [T.lowR] at q
    obtain ⟨m, e⟩ := s.ix
    rw [e, List.getElem?_append_left (of_decide_eq_true q)] at h
    exact .ref h
theorem Rps.down (s : Sub ρ ρ') : ∀ {ts : List T} {vs : List V}, Rps Y ρ' H ts vs → lowRs ρ.ix.length ts = true → Rps Y ρ H ts vs
  | _, _, .nil, _ => .nil
  | _, _, .cons a b, q => by
    simp only [lowRs, Bool.and_eq_true] at q
    exact .cons (a.down s q.1) (b.down s q.2)
end
theorem OR.down (s : Sub ρ ρ') {a : Addr} {o : VO} {H0 : Hp} {a0 : Addr} (r : OR Y ρ' H a o) (q : OR Y ρ H0 a0 o) : OR Y ρ H a o := by
  cases o with
  | lst ts => obtain ⟨vs, h1, hz, h2⟩ := r; obtain ⟨_, _, _, g⟩ := q; exact ⟨vs, h1, hz, h2.down s g.lows⟩
  | ins c fs => obtain ⟨C, dx, vfs, hc, h1, hn, h2⟩ := r; obtain ⟨_, _, _, _, _, _, g⟩ := q; exact ⟨C, dx, vfs, hc, h1, hn, h2.down s g.lows⟩
  | dct kvs => obtain ⟨vk, h1, h2, h3⟩ := r; obtain ⟨_, _, g2, g3⟩ := q; exact ⟨vk, h1, h2.down s g2.lows, h3.down s g3.lows⟩
  | dcT kvs => obtain ⟨vk, h1, h2, h3⟩ := r; obtain ⟨_, _, g2, g3⟩ := q; exact ⟨vk, h1, h2, h3.down s g3.lows⟩
  | dcF kvs => obtain ⟨z, vk, h1, h2, h3⟩ := r; obtain ⟨_, _, _, g2, g3⟩ := q; exact ⟨z, vk, h1, h2.down s g2.lows, h3.down s g3.lows⟩
  | dcN kvs => obtain ⟨xs, h1, h0, h2, h3⟩ := r; obtain ⟨_, _, _, g2, g3⟩ := q; exact ⟨xs, h1, h0, h2.down s g2.lows, h3.down s g3.lows⟩
  | tab nm => exact ⟨r.1, TbAt.to r.2 rfl fun c o z => ⟨s.out o, z⟩⟩
theorem HR.down {H0 : Hp} {h h' : VH} (s : Sub ρ ρ') (r : HR Y ρ' H h') (q : HR Y ρ H0 h) (e : h'.take h.length = h) : HR Y ρ H h := by
  obtain ⟨m, em⟩ := s.ix
  refine ⟨q.len, q.nd, fun a ha => ?_, fun a ha => r.bl a (by rw [s.bn]; exact ha), fun n o a h1 h2 => ?_, r.tbTo (fun _ o _ => s.out o) fun _ _ _ => rfl⟩
  · obtain ⟨b1, b2⟩ := r.bt a (by rw [s.bn]; exact ha)
    exact ⟨b1, fun z => b2 (by rw [em]; exact List.mem_append_left _ z)⟩
  · have hn : n < h.length := (List.getElem?_eq_some_iff.mp h1).1
    have h3 : h'[n]? = some o := by
      rw [← e, List.getElem?_take_of_lt hn] at h1
      exact h1
    have h4 : ρ'.ix[n]? = some a := by
      rw [em, List.getElem?_append_left (by rw [q.len]; exact hn)]
      exact h2
    exact (r.at_ n o a h3 h4).down s (q.at_ n o a h1 h2)
end
def frz (n : Nat) (h : VH) : Nat → T → Option T
  | 0, t => if t.lowR n then some t else none
  | k + 1, t => if t.lowR n then some t else match t with
    | .tup ts => (ts.mapM (frz n h k)).map .tup
    | .lst ts => (ts.mapM (frz n h k)).map .lst
    | .obj c fs => (fs.mapM (frz n h k)).map (.obj c)
    | .ref j => (match h[j]? with
      | some (.lst ts) => (ts.mapM (frz n h k)).map .lst
      | some (.ins c fs) => (fs.mapM (frz n h k)).map (.obj c)
      | _ => none)
    | _ => none
section
variable {Y : Wd} {ρ ρ' : Rh} {H : Hp} {h : VH}
theorem mapM_rps {f : T → Option T} (hf : ∀ t v u, Rp Y ρ' H t v → f t = some u → Rp Y ρ H u v) : ∀ {ts : List T} {vs : List V} {us : List T}, Rps Y ρ' H ts vs → ts.mapM f = some us → Rps Y ρ H us vs
  | [], _, us, r, e => by
    cases r
    simp at e
    subst e
    exact .nil
  | t :: ts, _, us, r, e => by
    cases r with
    | cons a b =>
      rw [List.mapM_cons] at e
      cases e1 : f t with
      | none => rw [e1] at e; simp at e
      | some u =>
        rw [e1] at e
        cases e2 : ts.mapM f with
        | none => rw [e2] at e; simp at e
        | some us' =>
          rw [e2] at e
          simp at e
          subst e
          exact .cons (hf _ _ _ a e1) (mapM_rps hf b e2)
theorem frz_ok (s : Sub ρ ρ') (hr : HR Y ρ' H h) : ∀ (k : Nat) (t : T) (v : V) (u : T), Rp Y ρ' H t v → frz ρ.ix.length h k t = some u → Rp Y ρ H u v := by
  intro k
  induction k with
  | zero =>
    intro t v u r e
    unfold frz at e
    split at e
    · rename_i q; cases e; exact r.down s q
    · cases e
  | succ k ih =>
    intro t v u r e
    unfold frz at e
    split at e
    · rename_i q; cases e; exact r.down s q
    · cases r with
      | tup ta rs =>
        simp only at e
        rename_i a vs ts _
        cases e1 : ts.mapM (frz ρ.ix.length h k) with
        | none => rw [e1] at e; cases e
        | some us =>
          rw [e1] at e
          cases e
          exact .tup ⟨ta.1, ta.2.elim (fun z => .inl ⟨s.out z.1, z.2⟩) .inr⟩ (mapM_rps ih rs e1)
      | lst ta rs =>
        simp only at e
        rename_i a vs ts _
        cases e1 : ts.mapM (frz ρ.ix.length h k) with
        | none => rw [e1] at e; cases e
        | some us =>
          rw [e1] at e
          cases e
          exact .lst ⟨ta.1, s.out ta.2.1, ta.2.2⟩ (mapM_rps ih rs e1)
      | obj hc ho hh hn rs =>
        simp only at e
        rename_i c a C dx vfs fs _
        cases e1 : fs.mapM (frz ρ.ix.length h k) with
        | none => rw [e1] at e; cases e
        | some us =>
          rw [e1] at e
          cases e
          have r2 := mapM_rps ih rs e1
          have hl : us.length = fs.length := by rw [← r2.length, rs.length]
          exact .obj hc (s.out ho) hh (by rw [hl]; exact hn) r2
      | ref ha =>
        simp only at e
        rename_i j a q0
        have hj : ¬ j < ρ.ix.length := fun z => q0 (by simp only [T.lowR]; exact decide_eq_true z)
        have out : ρ.out a := by
          obtain ⟨m, em⟩ := s.ix
          refine ⟨fun z => ?_, fun z => (hr.bt a (by rw [s.bn]; exact z)).2 (List.mem_of_getElem? ha)⟩
          obtain ⟨i, hi, ei⟩ := List.getElem_of_mem z
          have e1 : ρ'.ix[i]? = some a := by rw [em, List.getElem?_append_left hi, List.getElem?_eq_getElem hi, ei]
          obtain ⟨w1, f1⟩ := List.getElem?_eq_some_iff.mp e1
          obtain ⟨w2, f2⟩ := List.getElem?_eq_some_iff.mp ha
          have : i = j := (List.getElem_inj hr.nd).mp (f1.trans f2.symm)
          omega
        cases eo : h[j]? with
        | none => rw [eo] at e; cases e
        | some o =>
          rw [eo] at e
          have q := hr.at_ j o a eo ha
          cases o with
          | lst ts =>
            simp only at e
            obtain ⟨vs, h1, hz, rs⟩ := q
            cases e1 : ts.mapM (frz ρ.ix.length h k) with
            | none => rw [e1] at e; cases e
            | some us =>
              rw [e1] at e
              cases e
              exact .lst ⟨hz, out, h1⟩ (mapM_rps ih rs e1)
          | ins c fs =>
            simp only at e
            obtain ⟨C, dx, vfs, hc, h1, hn, rs⟩ := q
            cases e1 : fs.mapM (frz ρ.ix.length h k) with
            | none => rw [e1] at e; cases e
            | some us =>
              rw [e1] at e
              cases e
              have r2 := mapM_rps ih rs e1
              have hl : us.length = fs.length := by rw [← r2.length, rs.length]
              exact .obj hc out h1 (by rw [hl]; exact hn) r2
          | dct kvs => cases e
          | dcT kvs => cases e
          | dcF kvs => cases e
          | dcN kvs => cases e
          | tab nm => cases e
      | _ => cases e
end
end TL
namespace TL
open PySem PySem.Spec L2
def T.dat (h : VH) : Nat → T → Option PyData
  | _, .non => some .none
  | _, .bl b => some (.bool b)
  | _, .int i => some (.int i)
  | _, .str x => some (.str x)
  | k + 1, .tup ts => (ts.mapM (T.dat h k)).map .tuple
  | k + 1, .lst ts => (ts.mapM (T.dat h k)).map .list
  | k + 1, .ref n => match h[n]? with
    | some (.lst ts) => (ts.mapM (T.dat h k)).map .list
    | _ => none
  | _, _ => none
theorem dats_ok {Y : Wd} {ρ : Rh} {H : Hp} {f : T → Option PyData} {k : Nat} (hf : ∀ t v d, Rp Y ρ H t v → f t = some d → Dp Y.K H v d ∧ d.plain = true ∧ d.depth ≤ k) :
    ∀ {ts : List T} {vs : List V} {ds : List PyData}, Rps Y ρ H ts vs → ts.mapM f = some ds → DpAll Y.K H vs ds ∧ PyData.plainAll ds = true ∧ PyData.depthAll ds ≤ k
  | [], _, ds, r, e => by
    cases r
    simp at e
    subst e
    exact ⟨.nil, rfl, Nat.zero_le _⟩
  | t :: ts, _, ds, r, e => by
    cases r with
    | cons a b =>
      rw [List.mapM_cons] at e
      cases e1 : f t with
      | none => rw [e1] at e; simp at e
      | some u =>
        rw [e1] at e
        cases e2 : ts.mapM f with
        | none => rw [e2] at e; simp at e
        | some us' =>
          rw [e2] at e
          simp at e
          subst e
          obtain ⟨q1, q2, q3⟩ := hf _ _ _ a e1
          obtain ⟨p1, p2, p3⟩ := dats_ok hf b e2
          exact ⟨.cons q1 p1, by rw [PyData.plainAll, q2, p2]; rfl, by rw [PyData.depthAll]; exact Nat.max_le.mpr ⟨q3, p3⟩⟩
theorem dat_ok {Y : Wd} {ρ : Rh} {H : Hp} {h : VH} (hr : HR Y ρ H h) : ∀ (k : Nat) (t : T) (v : V) (d : PyData), Rp Y ρ H t v → T.dat h k t = some d → Dp Y.K H v d ∧ d.plain = true ∧ d.depth ≤ k := by
  intro k
  induction k with
  | zero =>
    intro t v d r e
    cases r with
    | non => simp [T.dat] at e; subst e; exact ⟨.non, rfl, Nat.le_refl _⟩
    | bl b => simp [T.dat] at e; subst e; exact ⟨.bl b, rfl, Nat.le_refl _⟩
    | int i => simp [T.dat] at e; subst e; exact ⟨.int i, rfl, Nat.le_refl _⟩
    | str hx => simp [T.dat] at e; subst e; exact ⟨.str _, rfl, Nat.le_refl _⟩
    | _ => simp [T.dat] at e
  | succ k ih =>
    intro t v d r e
    cases r with
    | non => simp [T.dat] at e; subst e; exact ⟨.non, rfl, Nat.zero_le _⟩
    | bl b => simp [T.dat] at e; subst e; exact ⟨.bl b, rfl, Nat.zero_le _⟩
    | int i => simp [T.dat] at e; subst e; exact ⟨.int i, rfl, Nat.zero_le _⟩
    | str hx => simp [T.dat] at e; subst e; exact ⟨.str _, rfl, Nat.zero_le _⟩
    | tup ta rs =>
      simp only [T.dat, Option.map_eq_some_iff] at e
      obtain ⟨ds, e1, rfl⟩ := e
      obtain ⟨q1, q2, q3⟩ := dats_ok (ih) rs e1
      exact ⟨.tup ta.sq q1, by simp only [PyData.plain]; exact q2, by rw [PyData.depth]; omega⟩
    | lst ta rs =>
      simp only [T.dat, Option.map_eq_some_iff] at e
      obtain ⟨ds, e1, rfl⟩ := e
      obtain ⟨q1, q2, q3⟩ := dats_ok (ih) rs e1
      exact ⟨.lst ta.sq q1, by simp only [PyData.plain]; exact q2, by rw [PyData.depth]; omega⟩
    | obj _ _ _ _ _ => simp [T.dat] at e
    | arg _ _ => simp [T.dat] at e
    | tpx _ _ => simp [T.dat] at e
    | exc _ _ _ => simp [T.dat] at e
    | @ref n a ha =>
      unfold T.dat at e
      split at e
      · rename_i ts eo
        simp only [Option.map_eq_some_iff] at e
        obtain ⟨ds, e1, rfl⟩ := e
        obtain ⟨vs, h1, hz, rs⟩ := hr.at_ n _ a eo ha
        obtain ⟨q1, q2, q3⟩ := dats_ok (ih) rs e1
        exact ⟨.lst (.of h1) q1, by simp only [PyData.plain]; exact q2, by rw [PyData.depth]; omega⟩
      · cases e
section
variable {X : Cx}
def rEqP (K : PySem.W.Frag) (g : PyData → PyData → Bool) : R2 := fun x y H Q => ∃ d e, Dp K H x d ∧ Dp K H y e ∧ d.plain = true ∧ e.plain = true ∧ d.depth ≤ 12 ∧ Q (.bl (g d e)) H
theorem op_eqP (hu : X.A.units + 80 < cLine) : OpR X (compareOp .Eq) (rEqP X.K fun d e => PyData.eqv d e) := by
  intro pins s σ H x y v u Q I rx ry h
  obtain ⟨d, e, hd, he, sd, se, hz, q⟩ := h
  obtain ⟨as, r1⟩ := Dp.reads I d x v hd rx
  obtain ⟨bs, r2⟩ := Dp.reads I e y u he ry
  exact SeqAt.eq_plain r1 r2 sd se (by omega) ⟨.bl _, H, I, rfl, q⟩
theorem op_neP (hu : X.A.units + 80 < cLine) : OpR X (compareOp .NotEq) (rEqP X.K fun d e => !PyData.eqv d e) := by
  intro pins s σ H x y v u Q I rx ry h
  obtain ⟨d, e, hd, he, sd, se, hz, q⟩ := h
  obtain ⟨as, r1⟩ := Dp.reads I d x v hd rx
  obtain ⟨bs, r2⟩ := Dp.reads I e y u he ry
  exact SeqAt.ne_plain r1 r2 sd se (by omega) ⟨.bl _, H, I, rfl, q⟩
def rInP (K : PySem.W.Frag) (neg : Bool) : R2 := fun x y H Q => ∃ d ds, Dp K H x d ∧ (Dp K H y (.list ds) ∨ Dp K H y (.tuple ds)) ∧ d.plain = true ∧ PyData.plainAll ds = true ∧ d.depth ≤ 12 ∧ Q (.bl (neg != ds.any fun z => PyData.eqv z d)) H
theorem op_inP (hu : X.A.units + 80 < cLine) : OpR X (compareOp .In) (rInP X.K false) := by
  intro pins s σ H x y v u Q I rx ry h
  obtain ⟨d, ds, hd, he, sd, se, hz, q⟩ := h
  obtain ⟨as, r1⟩ := Dp.reads I d x v hd rx
  rw [Bool.false_bne] at q
  rcases he with he | he
  · obtain ⟨bs, r2⟩ := Dp.reads I _ y u he ry
    exact SeqAt.in_list_data r2 r1 se sd (by omega) ⟨.bl _, H, I, rfl, q⟩
  · obtain ⟨bs, r2⟩ := Dp.reads I _ y u he ry
    exact SeqAt.in_tuple_data r2 r1 se sd (by omega) ⟨.bl _, H, I, rfl, q⟩
theorem op_ninP (hu : X.A.units + 80 < cLine) : OpR X (compareOp .NotIn) (rInP X.K true) := by
  intro pins s σ H x y v u Q I rx ry h
  obtain ⟨d, ds, hd, he, sd, se, hz, q⟩ := h
  obtain ⟨as, r1⟩ := Dp.reads I d x v hd rx
  rw [Bool.true_bne] at q
  rcases he with he | he
  · obtain ⟨bs, r2⟩ := Dp.reads I _ y u he ry
    exact SeqAt.notIn_list_data r2 r1 se sd (by omega) ⟨.bl _, H, I, rfl, q⟩
  · obtain ⟨bs, r2⟩ := Dp.reads I _ y u he ry
    exact SeqAt.notIn_tuple_data r2 r1 se sd (by omega) ⟨.bl _, H, I, rfl, q⟩
def rOrd (K : PySem.W.Frag) (g : PyData → PyData → Bool) : R2 := fun x y H Q => ∃ d e, Dp K H x d ∧ Dp K H y e ∧ PySem.W.alike d e = true ∧ d ≠ .none ∧ d.depth ≤ 12 ∧ Q (.bl (g d e)) H
theorem op_ltP (hu : X.A.units + 80 < cLine) : OpR X (compareOp .Lt) (rOrd X.K fun d e => PySem.W.dataLt d e) := by
  intro pins s σ H x y v u Q I rx ry h
  obtain ⟨d, e, hd, he, sd, se, hz, q⟩ := h
  obtain ⟨as, r1⟩ := Dp.reads I d x v hd rx
  obtain ⟨bs, r2⟩ := Dp.reads I e y u he ry
  exact PySem.W.lt_data r1 r2 sd se (by omega) ⟨.bl _, H, I, rfl, q⟩
theorem op_leP (hu : X.A.units + 80 < cLine) : OpR X (compareOp .LtE) (rOrd X.K fun d e => !PySem.W.dataLt e d) := by
  intro pins s σ H x y v u Q I rx ry h
  obtain ⟨d, e, hd, he, sd, se, hz, q⟩ := h
  obtain ⟨as, r1⟩ := Dp.reads I d x v hd rx
  obtain ⟨bs, r2⟩ := Dp.reads I e y u he ry
  exact PySem.W.le_data r1 r2 sd se (by omega) ⟨.bl _, H, I, rfl, q⟩
theorem op_gtP (hu : X.A.units + 80 < cLine) : OpR X (compareOp .Gt) (rOrd X.K fun d e => PySem.W.dataLt e d) := by
  intro pins s σ H x y v u Q I rx ry h
  obtain ⟨d, e, hd, he, sd, se, hz, q⟩ := h
  obtain ⟨as, r1⟩ := Dp.reads I d x v hd rx
  obtain ⟨bs, r2⟩ := Dp.reads I e y u he ry
  exact PySem.W.gt_data r1 r2 sd se (by omega) ⟨.bl _, H, I, rfl, q⟩
theorem op_geP (hu : X.A.units + 80 < cLine) : OpR X (compareOp .GtE) (rOrd X.K fun d e => !PySem.W.dataLt d e) := by
  intro pins s σ H x y v u Q I rx ry h
  obtain ⟨d, e, hd, he, sd, se, hz, q⟩ := h
  obtain ⟨as, r1⟩ := Dp.reads I d x v hd rx
  obtain ⟨bs, r2⟩ := Dp.reads I e y u he ry
  exact PySem.W.ge_data r1 r2 sd se (by omega) ⟨.bl _, H, I, rfl, q⟩
end
section
variable {X : Cx} {Y : Wd}
theorem OT.or {r r' : R2} {b : T → T → VH → Res T} (h : ∀ ρ H t1 t2 v1 v2 h t h' Q, Rp Y ρ H t1 v1 → Rp Y ρ H t2 v2 → HR Y ρ H h → b t1 t2 h = .ok t h' → To Y (Rp Y) ρ H t h' Q → r v1 v2 H Q ∨ r' v1 v2 H Q) : OT Y (fun x y H Q => r x y H Q ∨ r' x y H Q) b := h
def bEqG (g : PyData → PyData → Bool) : T → T → VH → Res T := fun a b h => match a.dat h 10, b.dat h 10 with
  | some x, some y => .ok (.bl (g x y)) h
  | _, _ => .bad
def bEq := bEqG fun d e => PyData.eqv d e
def bNe := bEqG fun d e => !PyData.eqv d e
theorem ot_eqG (g : PyData → PyData → Bool) : OT Y (rEqP Y.K g) (bEqG g) := fun ρ H t1 t2 v1 v2 h t h' Q r1 r2 hr e to => by
  unfold bEqG at e
  split at e
  · rename_i x y e1 e2
    cases e
    obtain ⟨p1, p2, p3⟩ := dat_ok hr _ _ _ _ r1 e1
    obtain ⟨q1, q2, q3⟩ := dat_ok hr _ _ _ _ r2 e2
    exact ⟨x, y, p1, q1, p2, q2, by omega, to.to ρ H _ .refl hr (.bl _)⟩
  · cases e
def notNone : PyData → Bool
  | .none => false
  | _ => true
theorem notNone_ne {d : PyData} (h : notNone d = true) : d ≠ .none := fun z => by subst z; cases h
def bOrdD (g : PyData → PyData → Bool) (a b : T) (h : VH) : Res T := match a.dat h 10, b.dat h 10 with
  | some x, some y => if (PySem.W.alike x y && notNone x) = true then .ok (.bl (g x y)) h else .bad
  | _, _ => .bad
def bOrdG (g : PyData → PyData → Bool) (gi : Int → Int → Bool) (a b : T) (h : VH) : Res T := match a, b with
  | .int i, .int j => .ok (.bl (gi i j)) h
  | a, b => bOrdD g a b h
def bLt := bOrdG (fun d e => PySem.W.dataLt d e) fun i j => decide (i < j)
def bLe := bOrdG (fun d e => !PySem.W.dataLt e d) fun i j => decide (i ≤ j)
def bGt := bOrdG (fun d e => PySem.W.dataLt e d) fun i j => decide (j < i)
def bGe := bOrdG (fun d e => !PySem.W.dataLt d e) fun i j => decide (j ≤ i)
def rO (K : PySem.W.Frag) (g : PyData → PyData → Bool) (gi : Int → Int → Bool) : R2 := fun x y H Q => rI0 (fun i j => .bl (gi i j)) x y H Q ∨ rOrd K g x y H Q
theorem ot_ord (g : PyData → PyData → Bool) (gi : Int → Int → Bool) : OT Y (rO Y.K g gi) (bOrdG g gi) := fun ρ H t1 t2 v1 v2 h t h' Q r1 r2 hr e to => by
  unfold bOrdG at e
  split at e
  · cases e
    cases r1
    cases r2
    exact .inl ⟨_, _, rfl, rfl, to.to ρ H _ .refl hr (.bl _)⟩
  · unfold bOrdD at e
    split at e
    · rename_i x y e1 e2
      split at e
      · rename_i c
        cases e
        rw [Bool.and_eq_true] at c
        obtain ⟨p1, p2, p3⟩ := dat_ok hr _ _ _ _ r1 e1
        obtain ⟨q1, q2, q3⟩ := dat_ok hr _ _ _ _ r2 e2
        exact .inr ⟨x, y, p1, q1, c.1, notNone_ne c.2, by omega, to.to ρ H _ .refl hr (.bl _)⟩
      · cases e
    · cases e
theorem oLt (hu : X.A.units + 80 < cLine) : OpR X (compareOp .Lt) (rO X.K (fun d e => PySem.W.dataLt d e) fun i j => decide (i < j)) := op_lt.or (op_ltP hu)
theorem oLe (hu : X.A.units + 80 < cLine) : OpR X (compareOp .LtE) (rO X.K (fun d e => !PySem.W.dataLt e d) fun i j => decide (i ≤ j)) := op_le.or (op_leP hu)
theorem oGt (hu : X.A.units + 80 < cLine) : OpR X (compareOp .Gt) (rO X.K (fun d e => PySem.W.dataLt e d) fun i j => decide (j < i)) := op_gt.or (op_gtP hu)
theorem oGe (hu : X.A.units + 80 < cLine) : OpR X (compareOp .GtE) (rO X.K (fun d e => !PySem.W.dataLt d e) fun i j => decide (j ≤ i)) := op_ge.or (op_geP hu)
def bInS (neg : Bool) (a b : Str) : Bool := neg != !(Builtin.Str.occurrences b a 0 b.length 1).isEmpty
def bInG (neg : Bool) (a b : T) (h : VH) : Res T := match a, b with
  | .str x, .str y => .ok (.bl (bInS neg x y)) h
  | a, b => match a.dat h 10, b.dat h 11 with
    | some d, some (.list ds) => .ok (.bl (neg != ds.any fun z => PyData.eqv z d)) h
    | some d, some (.tuple ds) => .ok (.bl (neg != ds.any fun z => PyData.eqv z d)) h
    | _, _ => .bad
def bIn := bInG false
def bNin := bInG true
def rInA (K : PySem.W.Frag) (neg : Bool) : R2 := fun x y H Q => (∃ i j, x = .str i ∧ y = .str j ∧ Q (.bl (bInS neg i j)) H) ∨ rInP K neg x y H Q
theorem ot_in (neg : Bool) : OT Y (rInA Y.K neg) (bInG neg) := fun ρ H t1 t2 v1 v2 h t h' Q r1 r2 hr e to => by
  unfold bInG at e
  split at e
  · cases e
    cases r1
    cases r2
    exact .inl ⟨_, _, rfl, rfl, to.to ρ H _ .refl hr (.bl _)⟩
  · split at e
    · rename_i d ds e1 e2
      cases e
      obtain ⟨p1, p2, p3⟩ := dat_ok hr _ _ _ _ r1 e1
      obtain ⟨q1, q2, q3⟩ := dat_ok hr _ _ _ _ r2 e2
      exact .inr ⟨d, ds, p1, .inl q1, p2, by simpa only [PyData.plain] using q2, by omega, to.to ρ H _ .refl hr (.bl _)⟩
    · rename_i d ds e1 e2
      cases e
      obtain ⟨p1, p2, p3⟩ := dat_ok hr _ _ _ _ r1 e1
      obtain ⟨q1, q2, q3⟩ := dat_ok hr _ _ _ _ r2 e2
      exact .inr ⟨d, ds, p1, .inr q1, p2, by simpa only [PyData.plain] using q2, by omega, to.to ρ H _ .refl hr (.bl _)⟩
    · cases e
theorem oIn (hu : X.A.units + 80 < cLine) : OpR X (compareOp .In) (rInA X.K false) := by
  refine OpR.or (r := fun x y H Q => ∃ i j, x = .str i ∧ y = .str j ∧ Q (.bl (bInS false i j)) H) (fun pins s σ H x y v u Q I rx ry h => ?_) (op_inP hu)
  obtain ⟨i, j, e1, e2, q⟩ := h
  exact op_in_str pins s σ H x y v u Q I rx ry ⟨i, j, e1, e2, by unfold bInS at q; rw [Bool.false_bne] at q; exact q⟩
theorem oNin (hu : X.A.units + 80 < cLine) : OpR X (compareOp .NotIn) (rInA X.K true) := by
  refine OpR.or (r := fun x y H Q => ∃ i j, x = .str i ∧ y = .str j ∧ Q (.bl (bInS true i j)) H) (fun pins s σ H x y v u Q I rx ry h => ?_) (op_ninP hu)
  obtain ⟨i, j, e1, e2, q⟩ := h
  exact op_notIn_str pins s σ H x y v u Q I rx ry ⟨i, j, e1, e2, by unfold bInS at q; rw [Bool.true_bne] at q; exact q⟩
def isNon : T → Bool
  | .non => true
  | _ => false
def bIsG (neg : Bool) (a b : T) (h : VH) : Res T := match b with
  | .non => .ok (.bl (neg != isNon a)) h
  | _ => .bad
def bIs := bIsG false
def bIsn := bIsG true
theorem isNon_ok {ρ : Rh} {H : Hp} {t : T} {v : V} (r : Rp Y ρ H t v) : isNon t = decide (v = .non) := by cases r <;> simp [isNon]
theorem ot_is : OT Y (fun x y H Q => y = V.non ∧ Q (.bl (decide (x = V.non))) H) bIs := fun ρ H t1 t2 v1 v2 h t h' Q r1 r2 hr e to => by
  unfold bIs bIsG at e
  split at e
  · cases e
    cases r2
    exact ⟨rfl, to.to ρ H _ .refl hr (by rw [Bool.false_bne, isNon_ok r1]; exact .bl _)⟩
  · cases e
theorem ot_isn : OT Y (fun x y H Q => y = V.non ∧ Q (.bl (!decide (x = V.non))) H) bIsn := fun ρ H t1 t2 v1 v2 h t h' Q r1 r2 hr e to => by
  unfold bIsn bIsG at e
  split at e
  · cases e
    cases r2
    exact ⟨rfl, to.to ρ H _ .refl hr (by rw [Bool.true_bne, isNon_ok r1]; exact .bl _)⟩
  · cases e
def bI (c : Int → Int → Bool) (g : Int → Int → Int) (a b : T) (h : VH) : Res T := match a, b with
  | .int i, .int j => if c i j = true then .ok (.int (g i j)) h else .bad
  | _, _ => .bad
def bI0 (g : Int → Int → Int) (a b : T) (h : VH) : Res T := match a, b with
  | .int i, .int j => .ok (.int (g i j)) h
  | _, _ => .bad
theorem ot_I0 (g : Int → Int → Int) : OT Y (rI0 fun i j => .int (g i j)) (bI0 g) := fun ρ H t1 t2 v1 v2 h t h' Q r1 r2 hr e to => by
  unfold bI0 at e
  split at e
  · cases e
    cases r1
    cases r2
    exact ⟨_, _, rfl, rfl, to.to ρ H _ .refl hr (.int _)⟩
  · cases e
theorem ot_I {C : Int → Int → Prop} {c : Int → Int → Bool} (g : Int → Int → Int) (hc : ∀ i j, c i j = true → C i j) : OT Y (rI C fun i j => .int (g i j)) (bI c g) := fun ρ H t1 t2 v1 v2 h t h' Q r1 r2 hr e to => by
  unfold bI at e
  split at e
  · split at e
    · rename_i c'
      cases e
      cases r1
      cases r2
      exact ⟨_, _, rfl, rfl, hc _ _ c', to.to ρ H _ .refl hr (.int _)⟩
    · cases e
  · cases e
def bSub := bI0 fun i j => i - j
def bMod := bI (fun _ j => decide (0 < j)) fun i j => i % j
def bFdv := bI (fun i j => decide (0 < j) && decide (j < 1073741824)) fun i j => i / j
def bPow := bI (fun i j => decide (0 ≤ j) && decide (j ≤ 1000) && decide (i.natAbs < 1000000)) fun i j => i ^ j.toNat
def cMul (i j : Int) : Bool := (decide (-1000000000000000000 < i) && decide (i < 1000000000000000000)) || (decide (-1000000000000000000 < j) && decide (j < 1000000000000000000))
theorem ot_sub : OT Y (rI0 fun i j => .int (i - j)) bSub := ot_I0 _
theorem ot_mod : OT Y (rI (fun x j => 0 < j) fun i j => .int (i % j)) bMod := ot_I _ fun i j h => of_decide_eq_true h
theorem ot_fdv : OT Y (rI CDiv fun i j => .int (i / j)) bFdv := ot_I _ fun i j h => by rw [Bool.and_eq_true] at h; exact ⟨of_decide_eq_true h.1, of_decide_eq_true h.2⟩
theorem ot_pow : OT Y (rI CPow fun i j => .int (i ^ j.toNat)) bPow := ot_I _ fun i j h => by
  rw [Bool.and_eq_true, Bool.and_eq_true] at h
  have h1 := of_decide_eq_true h.1.1
  have h2 := of_decide_eq_true h.1.2
  have h3 := of_decide_eq_true h.2
  exact ⟨h1, by omega, by omega⟩
theorem cMul_ok {i j : Int} (h : cMul i j = true) : CMul i j := by
  unfold cMul at h
  rw [Bool.or_eq_true, Bool.and_eq_true, Bool.and_eq_true] at h
  rcases h with h | h
  · have h1 := of_decide_eq_true h.1
    have h2 := of_decide_eq_true h.2
    exact .inl ⟨by omega, by omega⟩
  · have h1 := of_decide_eq_true h.1
    have h2 := of_decide_eq_true h.2
    exact .inr ⟨by omega, by omega⟩
def bAdd (a b : T) (h : VH) : Res T := match a, b with
  | .int i, .int j => .ok (.int (i + j)) h
  | .str x, .str y => if x.length + y.length ≤ 1000000 then .ok (.str (x ++ y)) h else .bad
  | .tup x, .tup y => if x.length + y.length ≤ 16777216 then .ok (.tup (x ++ y)) h else .bad
  | a, b => match listOf h a, listOf h b with
    | some x, some y => if x.length + y.length ≤ 16777216 then .ok (.lst (x ++ y)) h else .bad
    | _, _ => .bad
def rAddS : R2 := fun x y H Q => ∃ i j, x = .str i ∧ y = .str j ∧ i.length + j.length ≤ sizeLine ∧ Q (.str (i ++ j)) H
def rAdd (K : PySem.W.Frag) : R2 := fun x y H Q => rI0 (fun i j => .int (i + j)) x y H Q ∨ rAddS x y H Q ∨ rCatA K x y H Q ∨ rCat x y H Q
theorem oAdd : OpR X (binaryOp .Add) (rAdd X.K) := op_add.or (OpR.or (r := rAddS) op_add_str (op_catA.or op_cat))
theorem len_app (x y : Str) : (x ++ y).length = x.length + y.length := by
  show (x.cps ++ y.cps).size = _
  rw [Array.size_append]; rfl
theorem newL' {ρ : Rh} {H : Hp} {h : VH} {ts : List T} {vs : List V} {D : Addr} (hr : HR Y ρ H h) (rs : Rps Y ρ H ts vs) (hz : vs.length ≤ sizeLine) (hD : H D = none) : HR Y ρ (upd H D (.lst vs)) h ∧ Rp Y ρ (upd H D (.lst vs)) (.lst ts) (.ref D) :=
  let ⟨a, b, c, _⟩ := newL hr rs hz hD
  ⟨a, .lst b c⟩
theorem ot_add : OT Y (rAdd Y.K) bAdd := fun ρ H t1 t2 v1 v2 h t h' Q r1 r2 hr e to => by
  unfold bAdd at e
  split at e
  · cases e
    cases r1
    cases r2
    exact .inl ⟨_, _, rfl, rfl, to.to ρ H _ .refl hr (.int _)⟩
  · split at e
    · rename_i hz
      cases e
      cases r1
      cases r2
      exact .inr (.inl ⟨_, _, rfl, rfl, by rw [sizeLine_eq]; omega, to.to ρ H _ .refl hr (.str (by rw [len_app]; exact hz))⟩)
    · cases e
  · split at e
    · rename_i hz
      cases e
      cases r1 with
      | tup ta ra =>
        cases r2 with
        | tup tb rb =>
          refine .inr (.inr (.inl ⟨_, _, _, _, rfl, rfl, ta.sq, tb.sq, by rw [ra.length, rb.length, sizeLine_eq]; exact hz, fun z => ?_, fun z0 z => ?_, fun _ _ p hp => ?_⟩))
          · subst z
            cases ra
            exact to.to ρ H _ .refl hr (.tup tb rb)
          · subst z
            cases rb
            rw [List.append_nil] at to
            exact to.to ρ H _ .refl hr (.tup ta ra)
          · obtain ⟨n1, n2⟩ := newT hr (ra.append rb) (by rw [List.length_append, ra.length, rb.length, sizeLine_eq]; exact hz) hp
            exact to.to ρ _ _ (Ev.new hp) n1 n2
    · cases e
  · split at e
    · rename_i x y e1 e2
      split at e
      · rename_i hz
        cases e
        obtain ⟨a, va, rfl, ha, hza, ra⟩ := listOf_ok' r1 hr e1
        obtain ⟨b, vb, rfl, hb, hzb, rb⟩ := listOf_ok' r2 hr e2
        have hl : va.length + vb.length ≤ sizeLine := by rw [ra.length, rb.length, sizeLine_eq]; exact hz
        refine .inr (.inr (.inr ⟨a, b, va, vb, rfl, rfl, ha, hb, hl, fun p hp => ?_⟩))
        obtain ⟨n1, n2⟩ := newL' hr (ra.append rb) (by rw [List.length_append]; exact hl) hp
        exact to.to ρ _ _ (Ev.new hp) n1 n2
      · cases e
    · cases e
theorem Rps.rep {ρ : Rh} {H : Hp} {ts : List T} {vs : List V} (r : Rps Y ρ H ts vs) : ∀ k : Nat, Rps Y ρ H (List.replicate k ts).flatten (List.replicate k vs).flatten
  | 0 => .nil
  | k + 1 => by
    simp only [List.replicate_succ, List.flatten_cons]
    exact r.append (r.rep k)
theorem rep_len {α : Type} (l : List α) (k : Nat) : (List.replicate k l).flatten.length = k * l.length := by simp
def bMul (a b : T) (h : VH) : Res T := match a, b with
  | .int i, .int j => if cMul i j = true then .ok (.int (i * j)) h else .bad
  | a, .int k => match listOf h a with
    | some x => if x.length * k.toNat ≤ 16777216 ∧ -1000000000 ≤ k ∧ k ≤ 1000000000 then .ok (.lst (List.replicate k.toNat x).flatten) h else .bad
    | _ => .bad
  | _, _ => .bad
def rMul : R2 := fun x y H Q => rI CMul (fun i j => .int (i * j)) x y H Q ∨ rRep x y H Q
theorem oMul : OpR X (binaryOp .Mult) rMul := op_mul.or op_rep
theorem ot_mul : OT Y rMul bMul := fun ρ H t1 t2 v1 v2 h t h' Q r1 r2 hr e to => by
  unfold bMul at e
  split at e
  · split at e
    · rename_i c
      cases e
      cases r1
      cases r2
      exact .inl ⟨_, _, rfl, rfl, cMul_ok c, to.to ρ H _ .refl hr (.int _)⟩
    · cases e
  · split at e
    · rename_i x e1
      split at e
      · rename_i hz
        cases e
        cases r2
        obtain ⟨a, va, rfl, ha, hza, ra⟩ := listOf_ok' r1 hr e1
        have hl := hz.1
        rw [← ra.length, ← sizeLine_eq] at hl
        refine .inr ⟨a, _, va, rfl, rfl, ha, by omega, by omega, hl, fun p hp => ?_⟩
        obtain ⟨n1, n2⟩ := newL' hr (ra.rep _) (by rw [rep_len, Nat.mul_comm]; exact hl) hp
        exact to.to ρ _ _ (Ev.new hp) n1 n2
      · cases e
    · cases e
  · cases e
theorem atI_rps {ρ : Rh} {H : Hp} {ts : List T} {vs : List V} {i : Int} {t : T} (r : Rps Y ρ H ts vs) (e : atI ts i = some t) : ∃ v, atI vs i = some v ∧ Rp Y ρ H t v := by
  unfold atI at e ⊢
  rw [r.length]
  cases q : ixN ts.length i with
  | none => rw [q] at e; cases e
  | some j => rw [q] at e; exact r.get e
def bIx (a b : T) (h : VH) : Res T := match a, b with
  | .tup ts, .int i => (match atI ts i with
    | some t => .ok t h
    | none => .bad)
  | .arg ts, .int i => (match atI ts i with
    | some t => .ok t h
    | none => .bad)
  | .str z, .int i => (match atI z.cps.toList i with
    | some c => .ok (.str ⟨#[c]⟩) h
    | none => .bad)
  | a, .int i => (match listOf h a with
    | some ts => (match atI ts i with
      | some t => .ok t h
      | none => .bad)
    | none => .bad)
  | _, _ => .bad
theorem ot_ix : OT Y (rIx Y.K) bIx := fun ρ H t1 t2 v1 v2 h t h' Q r1 r2 hr e to => by
  unfold bIx at e
  split at e
  · split at e
    · rename_i q
      cases e
      cases r2
      cases r1 with
      | tup ta rs =>
        obtain ⟨v, ev, rv⟩ := atI_rps rs q
        exact .inr (.inl ⟨_, _, _, v, rfl, rfl, ta.sq, ev, to.to ρ H _ .refl hr rv⟩)
    · cases e
  · split at e
    · rename_i q
      cases e
      cases r2
      cases r1 with
      | arg ta rs =>
        obtain ⟨v, ev, rv⟩ := atI_rps rs q
        exact .inl ⟨_, _, _, v, rfl, rfl, ta.sq, ev, to.to ρ H _ .refl hr rv⟩
    · cases e
  · split at e
    · rename_i q
      cases e
      cases r2
      cases r1 with
      | str hz => exact .inr (.inr ⟨_, _, _, rfl, rfl, by rw [sizeLine_eq]; omega, q, to.to ρ H _ .refl hr (.str (by show (#[_] : Array Nat).size ≤ _; simp))⟩)
    · cases e
  · split at e
    · rename_i x e1
      split at e
      · rename_i q
        cases e
        cases r2
        obtain ⟨a, va, rfl, ha, hza, ra⟩ := listOf_ok r1 hr e1
        obtain ⟨v, ev, rv⟩ := atI_rps ra q
        exact .inl ⟨_, _, _, v, rfl, rfl, ha, ev, to.to ρ H _ .refl hr rv⟩
      · cases e
    · cases e
  · cases e
theorem xIx {a b : Expr} {f g : ME} {pos : Pos} (hK : X.K = Y.K) (ha : PE X a (TM Y f)) (hb : PE X b (TM Y g)) (hs : PlainIx b) : PE X (.Subscript a b pos) (TM Y (eOp bIx f g)) :=
  pe_imp (pe_ix (by rw [← hK]; exact ix_seq) ha hb hs) fun σ H Q q => tm_op ot_ix q
abbrev MO := TS_ → VH → Res (Option Int)
def TMO (Y : Wd) (f : MO) : TO := fun σ H Q => ∃ ρ τ h t h', Go Y ρ H τ σ h ∧ f τ h = .ok t h' ∧ To Y (fun _ _ a b => a = b) ρ H t h' Q
def oNo : MO := fun _ h => .ok none h
def oSome (f : ME) : MO := fun τ h => match f τ h with
  | .ok (.int i) h1 => .ok (some i) h1
  | _ => .bad
theorem po_imp {e : Option Expr} {t t' : TO} (h : PO X e t) (i : ∀ σ H Q, t' σ H Q → t σ H Q) : PO X e t' := ⟨fun pins s σ H Q I q => h.run pins s σ H Q I (i _ _ _ q)⟩
theorem xoNo : PO X none (TMO Y oNo) := po_imp po_none fun σ H Q q => by
  obtain ⟨ρ, τ, h, t, h', G, e, to⟩ := q
  cases e
  exact to.to ρ H _ .refl G.hr rfl
theorem xoSome {e : Expr} {f : ME} (he : PE X e (TM Y f)) : PO X (some e) (TMO Y (oSome f)) := po_imp (po_some he) fun σ H Q q => by
  obtain ⟨ρ, τ, h, t, h', G, e, to⟩ := q
  unfold oSome at e
  split at e
  · rename_i i h1 e1
    cases e
    exact ⟨ρ, τ, h, _, _, G, e1, ⟨fun ρ1 H1 v ev hr r => by cases r; exact ⟨_, rfl, to.to ρ1 H1 _ ev hr rfl⟩⟩⟩
  · cases e
def cutT (xs : List T) (lo hi : Option Int) : List T := (xs.drop (HT.sIx xs.length 0 lo)).take (HT.sIx xs.length xs.length hi - HT.sIx xs.length 0 lo)
def bSl (a : T) (lo hi : Option Int) (h : VH) : Res T := match a with
  | .tup ts => .ok (.tup (cutT ts lo hi)) h
  | .arg ts => .ok (.lst (cutT ts lo hi)) h
  | .str z => .ok (.str (cutS z lo hi)) h
  | a => match listOf h a with
    | some ts => .ok (.lst (cutT ts lo hi)) h
    | none => .bad
def eSl (f : ME) (lo hi : MO) : ME := fun τ h => match f τ h with
  | .ok a h1 => (match lo τ h1 with
    | .ok l h2 => (match hi τ h2 with
      | .ok u h3 => bSl a l u h3
      | .bad => .bad)
    | .bad => .bad)
  | .bad => .bad
def rSl (K : PySem.W.Frag) : V → Option Int → Option Int → Hp → VK → Prop := fun x lo hi H Q => rSlL K x lo hi H Q ∨ rSlA K x lo hi H Q ∨ rSlS x lo hi H Q
theorem oSl : SlR X (rSl X.K) := sl_list.or (sl_tupA.or sl_str)
theorem cut_rps {ρ : Rh} {H : Hp} {ts : List T} {vs : List V} (lo hi : Option Int) (r : Rps Y ρ H ts vs) : Rps Y ρ H (cutT ts lo hi) (cutV vs lo hi) := by
  unfold cutT cutV
  rw [r.length]
  exact (r.drop _).take _
theorem cut_whole (vs : List V) (lo hi : Option Int) (h : HT.sIx vs.length 0 lo = 0 ∧ HT.sIx vs.length vs.length hi = vs.length) : cutV vs lo hi = vs := by
  unfold cutV
  rw [h.1, h.2]; simp
theorem sl_ok {ρ : Rh} {H : Hp} {a : T} {va : V} {lo hi : Option Int} {h h' : VH} {t : T} {Q : VK} (ra : Rp Y ρ H a va) (hr : HR Y ρ H h) (e : bSl a lo hi h = .ok t h') (to : To Y (Rp Y) ρ H t h' Q) : rSl Y.K va lo hi H Q := by
  unfold bSl at e
  split at e
  · cases e
    cases ra with
    | tup ta rs =>
      have rc := cut_rps lo hi rs
      refine .inr (.inl ⟨_, _, rfl, ta.sq, fun w => ?_, fun w p hp => ?_⟩)
      · rw [cut_whole _ _ _ w] at rc
        exact to.to ρ H _ .refl hr (.tup ta rc)
      · obtain ⟨n1, n2⟩ := newT hr rc (Nat.le_trans (cutV_length _ _ _) ta.1) hp
        exact to.to ρ _ _ (Ev.new hp) n1 n2
  · cases e
    cases ra with
    | arg ta rs =>
      refine .inl ⟨_, _, rfl, ta.sq, fun p hp => ?_⟩
      obtain ⟨n1, n2⟩ := newL' hr (cut_rps lo hi rs) (Nat.le_trans (cutV_length _ _ _) ta.1) hp
      exact to.to ρ _ _ (Ev.new hp) n1 n2
  · cases e
    cases ra with
    | str hz => exact .inr (.inr ⟨_, rfl, by rw [sizeLine_eq]; omega, to.to ρ H _ .refl hr (.str (Nat.le_trans (cutS_length _ _ _) hz))⟩)
  · split at e
    · rename_i ts e1
      cases e
      obtain ⟨b, vb, rfl, hb, hz, rb⟩ := listOf_ok ra hr e1
      refine .inl ⟨b, vb, rfl, hb, fun p hp => ?_⟩
      obtain ⟨n1, n2⟩ := newL' hr (cut_rps lo hi rb) (Nat.le_trans (cutV_length _ _ _) hz) hp
      exact to.to ρ _ _ (Ev.new hp) n1 n2
    · cases e
theorem xSl {e : Expr} {lo hi : Option Expr} {f : ME} {l u : MO} {pos p2 : Pos} (hK : X.K = Y.K) (he : PE X e (TM Y f)) (hl : PO X lo (TMO Y l)) (hu : PO X hi (TMO Y u)) : PE X (.Subscript e (.Slice lo hi none p2) pos) (TM Y (eSl f l u)) :=
  pe_imp (pe_slice (r := rSl Y.K) (by rw [← hK]; exact oSl) he hl hu) fun σ H Q q => by
    obtain ⟨ρ, τ, h, t, h', G, e, to⟩ := q
    unfold eSl at e
    cases e1 : f τ h with
    | bad => simp only [e1] at e; cases e
    | ok a h1 =>
      simp only [e1] at e
      cases e2 : l τ h1 with
      | bad => simp only [e2] at e; cases e
      | ok lv h2 =>
        simp only [e2] at e
        cases e3 : u τ h2 with
        | bad => simp only [e3] at e; cases e
        | ok uv h3 =>
          simp only [e3] at e
          refine ⟨ρ, τ, h, a, h1, G, e1, ⟨fun ρ1 H1 va ev hr1 ra => ⟨ρ1, τ, h1, lv, h2, G.ev ev hr1, e2, ⟨fun ρ2 H2 vl ev2 hr2 el => ?_⟩⟩⟩⟩
          subst el
          refine ⟨ρ2, τ, h2, uv, h3, G.ev (ev.trans ev2) hr2, e3, ⟨fun ρ3 H3 vu ev3 hr3 eu => ?_⟩⟩
          subst eu
          exact sl_ok (ra.ev (ev2.trans ev3).toEvR) hr3 e (to.ev ((ev.trans ev2).trans ev3))
def eNeg (f : ME) : ME := fun τ h => match f τ h with
  | .ok (.int i) h1 => .ok (.int (-i)) h1
  | _ => .bad
end
end TL
namespace TL
open PySem PySem.Spec L2
section
variable {X : Cx} {Y : Wd}
theorem xNeg {a : Expr} {f : ME} {pos : Pos} (ha : PE X a (TM Y f)) : PE X (.UnaryOp .USub a pos) (TM Y (eNeg f)) := pe_imp (pe_un un_neg ha) fun σ H Q q => by
  obtain ⟨ρ, τ, h, t, h', G, e, to⟩ := q
  unfold eNeg at e
  split at e
  · rename_i i h1 e1
    cases e
    exact ⟨ρ, τ, h, _, _, G, e1, ⟨fun ρ1 H1 v ev hr r => by cases r; exact ⟨_, rfl, to.to ρ1 H1 _ ev hr (.int _)⟩⟩⟩
  · cases e
def eChain (b b' : T → T → VH → Res T) (f g k : ME) : ME := fun τ h => match f τ h with
  | .ok x h1 => (match g τ h1 with
    | .ok y h2 => (match b x y h2 with
      | .ok (.bl true) h3 => (match k τ h3 with
        | .ok z h4 => b' y z h4
        | .bad => .bad)
      | .ok (.bl false) h3 => .ok (.bl false) h3
      | _ => .bad)
    | .bad => .bad)
  | .bad => .bad
theorem tm_chain {r r' : R2} {b b' : T → T → VH → Res T} (o1 : OT Y r b) (o2 : OT Y r' b') {f g k : ME} {σ : St} {H : Hp} {Q : VK} (q : TM Y (eChain b b' f g k) σ H Q) : tChain r r' (TM Y f) (TM Y g) (TM Y k) σ H Q := by
  obtain ⟨ρ, τ, h, t, h', G, e, to⟩ := q
  unfold eChain at e
  cases e1 : f τ h with
  | bad => simp only [e1] at e; cases e
  | ok x h1 =>
    simp only [e1] at e
    refine ⟨ρ, τ, h, x, h1, G, e1, ⟨fun ρ1 H1 vx ev1 hr1 rx => ?_⟩⟩
    cases e2 : g τ h1 with
    | bad => simp only [e2] at e; cases e
    | ok y h2 =>
      simp only [e2] at e
      refine ⟨ρ1, τ, h1, y, h2, G.ev ev1 hr1, e2, ⟨fun ρ2 H2 vy ev2 hr2 ry => ?_⟩⟩
      have ev12 := ev1.trans ev2
      split at e
      · rename_i h3 e3
        refine o1 ρ2 H2 x y vx vy h2 _ h3 _ (rx.ev ev2.toEvR) ry hr2 e3 ⟨fun ρ3 H3 v3 ev3 hr3 r3 => ?_⟩
        cases r3
        refine ⟨true, rfl, iteT ?_⟩
        have ev13 := ev12.trans ev3
        cases e4 : k τ h3 with
        | bad => simp only [e4] at e; cases e
        | ok z h4 =>
          simp only [e4] at e
          exact ⟨ρ3, τ, h3, z, h4, G.ev ev13 hr3, e4, ⟨fun ρ4 H4 vz ev4 hr4 rz => o2 ρ4 H4 y z vy vz h4 t h' Q (ry.ev (ev3.trans ev4).toEvR) rz hr4 e (to.ev (ev13.trans ev4))⟩⟩
      · rename_i h3 e3
        cases e
        refine o1 ρ2 H2 x y vx vy h2 _ _ _ (rx.ev ev2.toEvR) ry hr2 e3 ⟨fun ρ3 H3 v3 ev3 hr3 r3 => ?_⟩
        cases r3
        exact ⟨false, rfl, iteF (to.to ρ3 H3 _ (ev12.trans ev3) hr3 (.bl _))⟩
      · cases e
theorem xChain {a b c : Expr} {pos : Pos} {op op' : CmpOp} {r r' : R2} {bb bb' : T → T → VH → Res T} (t1 : OT Y r bb) (t2 : OT Y r' bb') {f g k : ME} (o1 : OpR X (compareOp op) r) (o2 : OpR X (compareOp op') r') (ha : PE X a (TM Y f)) (hb : PE X b (TM Y g)) (hc : PE X c (TM Y k))
    (hm : lastMarks [op, op'] [b, c] = false := by with_unfolding_all rfl) : PE X (.Compare a [op, op'] [b, c] pos) (TM Y (eChain bb bb' f g k)) := pe_imp (pe_chain o1 o2 ha hb hc hm) fun σ H Q q => tm_chain t1 t2 q
theorem xtChain {a b c : Expr} {pos : Pos} {op op' : CmpOp} {r r' : R2} {bb bb' : T → T → VH → Res T} (t1 : OT Y r bb) (t2 : OT Y r' bb') {f g k : ME} (o1 : OpR X (compareOp op) r) (o2 : OpR X (compareOp op') r') (ha : PE X a (TM Y f)) (hb : PE X b (TM Y g)) (hc : PE X c (TM Y k))
    (hm : lastMarks [op, op'] [b, c] = false := by with_unfolding_all rfl) : PT X (.Compare a [op, op'] [b, c] pos) (TMB Y (bTest (eChain bb bb' f g k))) := pt_imp (pt_chain o1 o2 ha hb hc hm) fun σ H Q q => by
  obtain ⟨ρ, τ, h, u, h', G, e, to⟩ := q
  refine tm_chain t1 t2 (Q := fun x H' => ∃ k, x = .bl k ∧ Q k H') ?_
  unfold bTest at e
  split at e
  · rename_i b h1 e1
    cases e
    refine ⟨ρ, τ, h, _, _, G, e1, ⟨fun ρ1 H1 v ev hr r => ?_⟩⟩
    cases r
    exact ⟨_, rfl, to.to ρ1 H1 _ ev hr rfl⟩
  · cases e
def CTF (Y : Wd) (r : List V → Hp → VK → Prop) (b : List T → VH → Res (List T)) : Prop := ∀ ρ H ts vs h us h' Q, Rps Y ρ H ts vs → HR Y ρ H h → b ts h = .ok us h' →
  (∀ ρ' H' D ws, Ev ρ H ρ' H' → HR Y ρ' H' h' → H D = none → LstAt Y ρ' H' D ws → Rps Y ρ' H' us ws → HR Y (ρ'.push D) H' (h' ++ [.lst us]) → Q (.ref D) H') → r vs H Q
def mCall (b : List T → VH → Res (List T)) (g : MA) : MA := fun τ h => match g τ h with
  | .ok ts h1 => b ts h1
  | .bad => .bad
theorem tm_callF {r : List V → Hp → VK → Prop} {b : List T → VH → Res (List T)} (ct : CTF Y r b) {g : MA} {σ : St} {H : Hp} {Q : VK} (q : TMF Y (mCall b g) σ H Q) : TMA Y g σ H fun vs H1 => r vs H1 Q := by
  obtain ⟨ρ, τ, h, us, h', G, e, to⟩ := q
  unfold mCall at e
  cases e1 : g τ h with
  | bad => simp only [e1] at e; cases e
  | ok ts h1 =>
    simp only [e1] at e
    exact ⟨ρ, τ, h, ts, h1, G, e1, ⟨fun ρ1 H1 vs ev hr rs => ct ρ1 H1 ts vs h1 us h' Q rs hr e fun ρ' H' D ws ev' hr' hD => to ρ' H' D ws (ev.trans ev') hr' (ev.fresh hD)⟩⟩
theorem lay {ρ : Rh} {H : Hp} {h : VH} {us : List T} {ws : List V} {Q : VK} (hr : HR Y ρ H h) (rs : Rps Y ρ H us ws) (hz : ws.length ≤ sizeLine)
    (to : ∀ ρ' H' D ws, Ev ρ H ρ' H' → HR Y ρ' H' h → H D = none → LstAt Y ρ' H' D ws → Rps Y ρ' H' us ws → HR Y (ρ'.push D) H' (h ++ [.lst us]) → Q (.ref D) H') : ∀ p, H p = none → Q (.ref p) (upd H p (.lst ws)) := fun p hp => by
  obtain ⟨n1, n2, n3, n4⟩ := newL hr rs hz hp
  exact to ρ _ p ws (Ev.new hp) n1 hp n2 n3 n4
theorem xCallBF {id : String} {x : Str} {r : List V → Hp → VK → Prop} {b : List T → VH → Res (List T)} (ct : CTF Y r b) {e : Expr} {es : List Expr} {g : MA} {p pos : Pos} (hc : CallR X (.builtin id) r) (hg : Gl X x) (hm : X.mg x = none) (hv : bootBuiltins x = some (.builtin id)) (ha : PA X (e :: es) (TMA Y g)) (hn : x ≠ "__name__" := by decide) (hdb : (x == ("__debug__" : Str)) = false := by decide)
    (he : starEach (e :: es) X.env = (false, eval e X.env) :: starEach es X.env := by rfl) (hpl : (backTo pos (starEach es X.env)).any (·.1) = false := by rfl) :
    PE X (.Call (.Name x p) (e :: es) [] pos) (TMF Y (mCall b g)) := pe_imp (pe_callB hc hg hm hv ha hn hdb he hpl) fun σ H Q q => tm_callF ct q
theorem xCallTyF {T' : String} {x : Str} {r : List V → Hp → VK → Prop} {b : List T → VH → Res (List T)} (ct : CTF Y r b) {e : Expr} {es : List Expr} {g : MA} {p pos : Pos} (hc : CallR X (.type T') r) (hg : Gl X x) (hm : X.mg x = none) (hv : bootBuiltins x = some (.type T')) (ha : PA X (e :: es) (TMA Y g)) (hn : x ≠ "__name__" := by decide) (hdb : (x == ("__debug__" : Str)) = false := by decide)
    (he : starEach (e :: es) X.env = (false, eval e X.env) :: starEach es X.env := by rfl) (hpl : (backTo pos (starEach es X.env)).any (·.1) = false := by rfl) :
    PE X (.Call (.Name x p) (e :: es) [] pos) (TMF Y (mCall b g)) := pe_imp (pe_callTy hc hg hm hv ha hn hdb he hpl) fun σ H Q q => tm_callF ct q
def fLen (ts : List T) (h : VH) : Res T := match ts with
  | [.str z] => .ok (.int z.length) h
  | [t] => (match seqOf h t with
    | some us => .ok (.int us.length) h
    | none => .bad)
  | _ => .bad
theorem rps_one {ρ : Rh} {H : Hp} {t : T} {vs : List V} (r : Rps Y ρ H [t] vs) : ∃ v, vs = [v] ∧ Rp Y ρ H t v := by
  cases r with
  | cons a b => cases b; exact ⟨_, rfl, a⟩
theorem rps_two {ρ : Rh} {H : Hp} {t u : T} {vs : List V} (r : Rps Y ρ H [t, u] vs) : ∃ v w, vs = [v, w] ∧ Rp Y ρ H t v ∧ Rp Y ρ H u w := by
  cases r with
  | cons a b => obtain ⟨w, rfl, r⟩ := rps_one b; exact ⟨_, _, rfl, a, r⟩
def rLen (K : PySem.W.Frag) : List V → Hp → VK → Prop := fun xs H Q => ∃ x n, xs = [x] ∧ LenV K x H n ∧ Q (.int n) H
theorem ct_len : CT Y (rLen Y.K) fLen := fun ρ H ts vs h t h' Q r hr e to => by
  unfold fLen at e
  split at e
  · cases e
    obtain ⟨v, rfl, rv⟩ := rps_one r
    cases rv with
    | str hz => exact ⟨_, _, rfl, ⟨by rw [sizeLine_eq]; omega, rfl⟩, to.to ρ H _ .refl hr (.int _)⟩
  · split at e
    · rename_i us e1
      cases e
      obtain ⟨v, rfl, rv⟩ := rps_one r
      obtain ⟨a, ws, rfl, hs, hz, rs⟩ := seqOf_ok rv hr e1
      refine ⟨_, us.length, rfl, ?_, to.to ρ H _ .refl hr (.int _)⟩
      rw [← rs.length]
      exact hs.elim (fun z => .inl ⟨ws, z, rfl⟩) fun z => .inr ⟨ws, z, rfl⟩
    · cases e
  · cases e
def fList (ts : List T) (h : VH) : Res (List T) := match ts with
  | [t] => (match seqOf h t with
    | some us => .ok us h
    | none => .bad)
  | _ => .bad
def fTuple (ts : List T) (h : VH) : Res T := match ts with
  | [t] => (match seqOf h t with
    | some us => .ok (.tup us) h
    | none => .bad)
  | _ => .bad
def rTupleOf (K : PySem.W.Frag) : List V → Hp → VK → Prop := fun xs H Q => ∃ p ys, xs = [.ref p] ∧ ((SqL K H p ys ∧ ∀ l, H l = none → Q (.ref l) (upd H l (.tup ys))) ∨ (SqT K H p ys ∧ Q (.ref p) H))
theorem ct_tuple : CT Y (rTupleOf Y.K) fTuple := fun ρ H ts vs h t h' Q r hr e to => by
  unfold fTuple at e
  split at e
  · split at e
    · rename_i us' e1
      cases e
      obtain ⟨v, rfl, rv⟩ := rps_one r
      cases rv with
      | tup ta rs =>
        simp only [seqOf, Option.some.injEq] at e1
        subst e1
        exact ⟨_, _, rfl, .inr ⟨ta.sq, to.to ρ H _ .refl hr (.tup ta rs)⟩⟩
      | arg la rs =>
        simp only [seqOf, Option.some.injEq] at e1
        subst e1
        refine ⟨_, _, rfl, .inl ⟨la.sq, fun l hl => ?_⟩⟩
        obtain ⟨n1, n2⟩ := newT hr rs la.1 hl
        exact to.to ρ _ _ (Ev.new hl) n1 n2
      | lst la rs =>
        obtain ⟨a, ws, e2, hs, hz, rs⟩ := listOf_ok (.lst la rs) hr (show listOf h _ = some _ from e1)
        cases e2
        refine ⟨_, ws, rfl, .inl ⟨hs, fun l hl => ?_⟩⟩
        obtain ⟨n1, n2⟩ := newT hr rs hz hl
        exact to.to ρ _ _ (Ev.new hl) n1 n2
      | ref ha =>
        obtain ⟨a, ws, e2, hs, hz, rs⟩ := listOf_ok (.ref ha) hr (show listOf h _ = some _ from e1)
        cases e2
        refine ⟨_, ws, rfl, .inl ⟨hs, fun l hl => ?_⟩⟩
        obtain ⟨n1, n2⟩ := newT hr rs hz hl
        exact to.to ρ _ _ (Ev.new hl) n1 n2
      | _ => cases e1
    · cases e
  · cases e
def intsOf : List T → Option (List Int)
  | [] => some []
  | .int i :: r => (intsOf r).map (i :: ·)
  | _ => none
def blsOf : List T → Option (List Bool)
  | [] => some []
  | .bl i :: r => (blsOf r).map (i :: ·)
  | _ => none
theorem intsOf_ok {ρ : Rh} {H : Hp} : ∀ {ts : List T} {vs : List V} {ns : List Int}, Rps Y ρ H ts vs → intsOf ts = some ns → vs = ns.map V.int
  | [], _, ns, r, e => by cases r; cases e; rfl
  | t :: ts, _, ns, r, e => by
    cases r with
    | cons a b =>
      cases t with
      | int i =>
        simp only [intsOf, Option.map_eq_some_iff] at e
        obtain ⟨ms, e1, rfl⟩ := e
        cases a
        rw [intsOf_ok b e1]; rfl
      | _ => cases e
theorem blsOf_ok {ρ : Rh} {H : Hp} : ∀ {ts : List T} {vs : List V} {ns : List Bool}, Rps Y ρ H ts vs → blsOf ts = some ns → vs = ns.map V.bl
  | [], _, ns, r, e => by cases r; cases e; rfl
  | t :: ts, _, ns, r, e => by
    cases r with
    | cons a b =>
      cases t with
      | bl i =>
        simp only [blsOf, Option.map_eq_some_iff] at e
        obtain ⟨ms, e1, rfl⟩ := e
        cases a
        rw [blsOf_ok b e1]; rfl
      | _ => cases e
def fInts (g : List Int → Option Int) (ts : List T) (h : VH) : Res T := match ts with
  | [t] => (match listOf h t with
    | some us => (match intsOf us with
      | some ns => (match g ns with
        | some m => .ok (.int m) h
        | none => .bad)
      | none => .bad)
    | none => .bad)
  | _ => .bad
def maxI : List Int → Option Int
  | [] => none
  | x :: r => some (r.foldl max x)
def fSum := fInts fun ns => some ns.sum
def fMax := fInts maxI
theorem ints_arg {g : List Int → Option Int} {ρ : Rh} {H : Hp} {ts : List T} {vs : List V} {h h' : VH} {t : T} (r : Rps Y ρ H ts vs) (hr : HR Y ρ H h) (e : fInts g ts h = .ok t h') : ∃ a ns m, vs = [.ref a] ∧ SqL Y.K H a (ns.map V.int) ∧ g ns = some m ∧ t = .int m ∧ h' = h := by
  unfold fInts at e
  split at e
  · split at e
    · rename_i us e1
      split at e
      · rename_i ns e2
        split at e
        · rename_i m e3
          cases e
          obtain ⟨v, rfl, rv⟩ := rps_one r
          obtain ⟨a, ws, rfl, hs, hz, rs⟩ := listOf_ok rv hr e1
          rw [intsOf_ok rs e2] at hs
          exact ⟨a, ns, m, rfl, hs, e3, rfl, rfl⟩
        · cases e
      · cases e
    · cases e
  · cases e
theorem ct_sum : CT Y (rSum Y.K) fSum := fun ρ H ts vs h t h' Q r hr e to => by
  obtain ⟨a, ns, m, rfl, hs, e3, rfl, rfl⟩ := ints_arg r hr e
  cases e3
  exact ⟨a, ns, rfl, hs, to.to ρ H _ .refl hr (.int _)⟩
def fBls (g : List Bool → Bool) (ts : List T) (h : VH) : Res T := match ts with
  | [t] => (match listOf h t with
    | some us => (match blsOf us with
      | some ns => .ok (.bl (g ns)) h
      | none => .bad)
    | none => .bad)
  | _ => .bad
def fAll := fBls fun bs => bs.all id
def fAny := fBls fun bs => bs.any id
def rBls (K : PySem.W.Frag) (g : List Bool → Bool) : List V → Hp → VK → Prop := fun vs H Q => ∃ (a : Addr) (bs : List Bool), vs = [V.ref a] ∧ SqL K H a (bs.map V.bl) ∧ Q (.bl (g bs)) H
theorem ct_bls (g : List Bool → Bool) : CT Y (rBls Y.K g) (fBls g) := fun ρ H ts vs h t h' Q r hr e to => by
  unfold fBls at e
  split at e
  · split at e
    · rename_i us e1
      split at e
      · rename_i ns e2
        cases e
        obtain ⟨v, rfl, rv⟩ := rps_one r
        obtain ⟨a, ws, rfl, hs, hz, rs⟩ := listOf_ok rv hr e1
        rw [blsOf_ok rs e2] at hs
        exact ⟨a, ns, rfl, hs, to.to ρ H _ .refl hr (.bl _)⟩
      · cases e
    · cases e
  · cases e
theorem ct_all : CT Y (rAll Y.K) fAll := ct_bls _
theorem ct_any : CT Y (rAny Y.K) fAny := ct_bls _
def fAbs (ts : List T) (h : VH) : Res T := match ts with
  | [.int i] => .ok (.int (if i < 0 then -i else i)) h
  | _ => .bad
theorem ct_abs : CT Y (fun xs H Q => ∃ i, xs = [V.int i] ∧ Q (.int (if i < 0 then -i else i)) H) fAbs := fun ρ H ts vs h t h' Q r hr e to => by
  unfold fAbs at e
  split at e
  · cases e
    obtain ⟨v, rfl, rv⟩ := rps_one r
    cases rv
    exact ⟨_, rfl, to.to ρ H _ .refl hr (.int _)⟩
  · cases e
def fInt (ts : List T) (h : VH) : Res T := match ts with
  | [.int i] => .ok (.int i) h
  | [.bl b] => .ok (.int (if b = true then 1 else 0)) h
  | [.str a] => (match intText? a with
    | some n => if a.length ≤ 640 then .ok (.int n) h else .bad
    | none => .bad)
  | _ => .bad
def rInt1 : List V → Hp → VK → Prop := fun xs H Q => (∃ i, xs = [V.int i] ∧ Q (.int i) H) ∨ ∃ k, xs = [V.bl k] ∧ Q (.int (if k = true then 1 else 0)) H
def rIntS : List V → Hp → VK → Prop := fun xs H Q => ∃ a n, xs = [V.str a] ∧ intText? a = some n ∧ a.length ≤ 640 ∧ Q (.int n) H
def rInt : List V → Hp → VK → Prop := fun xs H Q => rInt1 xs H Q ∨ rIntS xs H Q
theorem oInt : CallR X (.type "int") rInt := CallR.or (r := rInt1) (r' := rIntS) call_int1 call_int_str
theorem ct_int : CT Y rInt fInt := fun ρ H ts vs h t h' Q r hr e to => by
  unfold fInt at e
  split at e
  · cases e
    obtain ⟨v, rfl, rv⟩ := rps_one r
    cases rv
    exact .inl (.inl ⟨_, rfl, to.to ρ H _ .refl hr (.int _)⟩)
  · cases e
    obtain ⟨v, rfl, rv⟩ := rps_one r
    cases rv
    exact .inl (.inr ⟨_, rfl, to.to ρ H _ .refl hr (.int _)⟩)
  · split at e
    · rename_i n en
      split at e
      · rename_i hz
        cases e
        obtain ⟨v, rfl, rv⟩ := rps_one r
        cases rv
        exact .inr ⟨_, n, rfl, en, hz, to.to ρ H _ .refl hr (.int _)⟩
      · cases e
    · cases e
  · cases e
def fStr (ts : List T) (h : VH) : Res T := match ts with
  | [.int i] => if i.natAbs.log2 < 1920 ∧ (Str.ofString (toString i)).length ≤ 1000000 then .ok (.str (Str.ofString (toString i))) h else .bad
  | _ => .bad
theorem ct_str : CT Y (fun xs H Q => ∃ i, xs = [V.int i] ∧ i.natAbs.log2 < 1920 ∧ Q (.str (Str.ofString (toString i))) H) fStr := fun ρ H ts vs h t h' Q r hr e to => by
  unfold fStr at e
  split at e
  · split at e
    · rename_i hz
      cases e
      obtain ⟨v, rfl, rv⟩ := rps_one r
      cases rv
      exact ⟨_, rfl, hz.1, to.to ρ H _ .refl hr (.str hz.2)⟩
    · cases e
  · cases e
def fII (g : Int → Int → Int) (ts : List T) (h : VH) : Res T := match ts with
  | [.int i, .int j] => .ok (.int (g i j)) h
  | _ => .bad
def fMax2 := fII fun i j => if j > i then j else i
def fMin2 := fII fun i j => if j < i then j else i
theorem ct_II (g : Int → Int → Int) : CT Y (fun xs H Q => ∃ i j, xs = [V.int i, V.int j] ∧ Q (.int (g i j)) H) (fII g) := fun ρ H ts vs h t h' Q r hr e to => by
  unfold fII at e
  split at e
  · cases e
    obtain ⟨v, w, rfl, rv, rw'⟩ := rps_two r
    cases rv
    cases rw'
    exact ⟨_, _, rfl, to.to ρ H _ .refl hr (.int _)⟩
  · cases e
theorem ct_max2 : CT Y (fun xs H Q => ∃ i j, xs = [V.int i, V.int j] ∧ Q (.int (if j > i then j else i)) H) fMax2 := ct_II _
theorem ct_min2 : CT Y (fun xs H Q => ∃ i j, xs = [V.int i, V.int j] ∧ Q (.int (if j < i then j else i)) H) fMin2 := ct_II _
def fDivmod (ts : List T) (h : VH) : Res T := match ts with
  | [.int i, .int j] => if 0 < j ∧ Builtin.divisionGoesByPylong i j = false then .ok (.tup [.int (i / j), .int (i % j)]) h else .bad
  | _ => .bad
theorem ct_divmod : CT Y (fun xs H Q => ∃ i j, xs = [V.int i, V.int j] ∧ CDivP i j ∧ ∀ p, H p = none → Q (.ref p) (upd H p (.tup [.int (i / j), .int (i % j)]))) fDivmod := fun ρ H ts vs h t h' Q r hr e to => by
  unfold fDivmod at e
  split at e
  · split at e
    · rename_i hz
      cases e
      obtain ⟨v, w, rfl, rv, rw'⟩ := rps_two r
      cases rv
      cases rw'
      refine ⟨_, _, rfl, hz, fun p hp => ?_⟩
      obtain ⟨n1, n2⟩ := newT (vs := [.int _, .int _]) hr (.cons (.int _) (.cons (.int _) .nil)) (by rw [sizeLine_eq]; exact Nat.le_of_ble_eq_true rfl) hp
      exact to.to ρ _ _ (Ev.new hp) n1 n2
    · cases e
  · cases e
end
end TL
namespace TL
open PySem PySem.Spec L2
section
variable {X : Cx} {Y : Wd}
theorem wk_list {v : V} {t : T} {ρ : Rh} {H : Hp} {a : Addr} (r : Rp Y ρ H t (.ref a)) : Wk Y (Itl Y.K a) (fun h => listOf h t) ρ H := by
  refine ⟨fun ρ1 H1 h ts i u ev hr e ei => ?_, fun ρ1 H1 h ts i ev hr e hl => ?_⟩
  · obtain ⟨b, vs, eb, hs, hz, rs⟩ := listOf_ok (r.ev ev) hr e
    cases eb
    obtain ⟨w, ew, rw'⟩ := rs.get ei
    refine ⟨⟨vs, w, hs, ew⟩, fun x H' y => ?_⟩
    obtain ⟨rfl, hx⟩ := y
    have e2 := hx vs hs
    rw [ew] at e2
    cases e2
    exact ⟨.refl, hr, rw'⟩
  · obtain ⟨b, vs, eb, hs, hz, rs⟩ := listOf_ok (r.ev ev) hr e
    cases eb
    exact ⟨vs, hs, by rw [rs.length]; exact hl⟩
theorem wk_tup {t : T} {ρ : Rh} {H : Hp} {a : Addr} (r : Rp Y ρ H t (.ref a)) : Wk Y (Itt Y.K a) (fun _ => tupOf t) ρ H := by
  refine ⟨fun ρ1 H1 h ts i u ev hr e ei => ?_, fun ρ1 H1 h ts i ev hr e hl => ?_⟩
  · obtain ⟨b, vs, eb, hs, hz, rs⟩ := tupOf_ok (r.ev ev) e
    cases eb
    obtain ⟨w, ew, rw'⟩ := rs.get ei
    refine ⟨⟨vs, w, hs, ew⟩, fun x H' y => ?_⟩
    obtain ⟨rfl, hx⟩ := y
    have e2 := hx vs hs
    rw [ew] at e2
    cases e2
    exact ⟨.refl, hr, rw'⟩
  · obtain ⟨b, vs, eb, hs, hz, rs⟩ := tupOf_ok (r.ev ev) e
    cases eb
    exact ⟨vs, hs, by rw [rs.length]; exact hl⟩
def signsT (x : Str) : List T := x.cps.toList.map fun c => .str ⟨#[c]⟩
theorem wk_str {x : Str} {ρ : Rh} {H : Hp} : Wk Y (Its x) (fun _ => some (signsT x)) ρ H := by
  refine ⟨fun ρ1 H1 h ts i u ev hr e ei => ?_, fun ρ1 H1 h ts i ev hr e hl => ?_⟩
  · cases e
    unfold signsT at ei
    rw [List.getElem?_map] at ei
    cases q : x.cps.toList[i]? with
    | none => rw [q] at ei; cases ei
    | some c =>
      rw [q] at ei
      cases ei
      rw [Array.getElem?_toList] at q
      refine ⟨(Array.getElem?_eq_some_iff.mp q).1, fun v H' y => ?_⟩
      obtain ⟨rfl, c', hc, rfl⟩ := y
      rw [q] at hc
      cases hc
      exact ⟨.refl, hr, .str (by show (#[_] : Array Nat).size ≤ _; simp)⟩
  · cases e
    show x.cps.size ≤ i
    unfold signsT at hl
    simpa using hl
def seqS (h : VH) : T → Option (List T)
  | .str x => some (signsT x)
  | .arg _ => none
  | t => seqOf h t
theorem wk_at {J : It} {rd rd' : VH → Option (List T)} {ρ : Rh} {H : Hp} (w : Wk Y J rd ρ H) (e : ∀ h, rd' h = rd h) : Wk Y J rd' ρ H :=
  ⟨fun ρ1 H1 h ts i u ev hr q => w.go ρ1 H1 h ts i u ev hr (by rw [← e]; exact q), fun ρ1 H1 h ts i ev hr q => w.stop ρ1 H1 h ts i ev hr (by rw [← e]; exact q)⟩
def walkable (h : VH) (t : T) : Bool := (seqS h t).isSome
def iSeqC (f : ME) : MI := fun τ h => match f τ h with
  | .ok t h1 => if walkable h1 t = true then .ok (fun h => seqS h t) h1 else .bad
  | .bad => .bad
theorem xiSeq {tg e : Expr} {f : ME} (hK : X.K = Y.K) (he : PE X e (TM Y f)) : PI X tg e (TMI Y (iSeqC f)) := by
  constructor
  intro pins s σ H R I q
  obtain ⟨ρ, τ, h, rd, h', G, e, to⟩ := q
  unfold iSeqC at e
  cases e1 : f τ h with
  | bad => rw [e1] at e; cases e
  | ok t h1 =>
    rw [e1] at e
    by_cases hw : walkable h1 t = true
    case neg => simp only [hw] at e; cases e
    simp only [hw, if_true] at e
    cases e
    have asList : (∀ ρ1 H1 v, Ev ρ H ρ1 H1 → HR Y ρ1 H1 h' → Rp Y ρ1 H1 t v → ∃ a, v = .ref a ∧ (∃ xs, SqL X.K H1 a xs) ∧ R (Itl X.K a) H1) → wpAny (model X.prog X.w) X.A (eval _ X.env) (fun v s1 => wpAny (model X.prog X.w) X.A (pyIter v) (PIE X pins σ tg R) X.xe s1) X.xe s :=
      fun k => (pi_list he).run pins s σ H R I ⟨ρ, τ, h, t, _, G, e1, ⟨fun ρ1 H1 v ev hr r => k ρ1 H1 v ev hr r⟩⟩
    cases t with
    | str z => exact (pi_str he).run pins s σ H R I ⟨ρ, τ, h, _, _, G, e1, ⟨fun ρ1 H1 v ev hr r => by cases r; exact ⟨_, rfl, to ρ1 H1 _ ev hr wk_str⟩⟩⟩
    | tup ts =>
      refine (pi_tup he).run pins s σ H R I ⟨ρ, τ, h, _, _, G, e1, ⟨fun ρ1 H1 v ev hr r => ?_⟩⟩
      rw [hK]
      cases r with
      | tup ta rs => exact ⟨_, rfl, ⟨_, ta.sq⟩, to ρ1 H1 _ ev hr (wk_at (wk_tup (.tup ta rs)) fun _ => rfl)⟩
    | lst ts =>
      refine asList fun ρ1 H1 v ev hr r => ?_
      rw [hK]
      cases r with
      | lst la rs => exact ⟨_, rfl, ⟨_, la.sq⟩, to ρ1 H1 _ ev hr (wk_at (wk_list (v := .non) (.lst la rs)) fun _ => rfl)⟩
    | ref n =>
      refine asList fun ρ1 H1 v ev hr r => ?_
      rw [hK]
      obtain ⟨ts, ets⟩ := Option.isSome_iff_exists.mp (show (seqS h' (.ref n)).isSome = true from hw)
      obtain ⟨b, vs, eb, hs, hz, rs⟩ := listOf_ok r hr (show listOf _ _ = some ts from ets)
      subst eb
      exact ⟨_, rfl, ⟨_, hs⟩, to ρ1 H1 _ ev hr (wk_at (wk_list (v := .non) r) fun _ => rfl)⟩
    | _ => cases hw
def rangeT (lo : Int) (n : Nat) : List T := (List.range n).map fun (i : Nat) => T.int (lo + i)
theorem wk_range {lo : Int} {n : Nat} {ρ : Rh} {H : Hp} : Wk Y (Itr lo n) (fun _ => some (rangeT lo n)) ρ H := by
  refine ⟨fun ρ1 H1 h ts i u ev hr e ei => ?_, fun ρ1 H1 h ts i ev hr e hl => ?_⟩
  · cases e
    unfold rangeT at ei
    rw [List.getElem?_map] at ei
    have hi : i < n := by
      by_cases c : i < n
      · exact c
      · rw [List.getElem?_eq_none (by simp; omega)] at ei; cases ei
    rw [List.getElem?_range hi] at ei
    cases ei
    refine ⟨hi, fun v H' y => ?_⟩
    obtain ⟨rfl, rfl⟩ := y
    exact ⟨.refl, hr, .int _⟩
  · cases e
    unfold rangeT at hl
    show n ≤ i
    simpa using hl
def iRange1 (g : MA) : MI := fun τ h => match g τ h with
  | .ok [.int j] h1 => if -1000000000 ≤ j ∧ j ≤ 1000000000 then .ok (fun _ => some (rangeT 0 j.toNat)) h1 else .bad
  | _ => .bad
theorem xiRange1 {tg a : Expr} {g : MA} {p pos : Pos} (hg : Gl X "range") (hm : X.mg "range" = none) (ha : PA X [a] (TMA Y g)) (hs : starEach [a] X.env = [(false, eval a X.env)] := by rfl) : PI X tg (.Call (.Name "range" p) [a] [] pos) (TMI Y (iRange1 g)) :=
  pi_imp (pi_range1 hg hm ha hs) fun σ H R q => by
    obtain ⟨ρ, τ, h, rd, h', G, e, to⟩ := q
    unfold iRange1 at e
    split at e
    · rename_i j h1 e1
      split at e
      · rename_i hz
        cases e
        refine ⟨ρ, τ, h, _, _, G, e1, ⟨fun ρ1 H1 vs ev hr r => ?_⟩⟩
        obtain ⟨v, rfl, rv⟩ := rps_one r
        cases rv
        exact ⟨j, rfl, by omega, by omega, to ρ1 H1 _ ev hr wk_range⟩
      · cases e
    · cases e
def enumT (ts : List T) : List T := ts.mapIdx fun i t => .tup [.int (i : Nat), t]
theorem pair_new {ρ : Rh} {H : Hp} {h : VH} {p : Addr} {x y : V} {t u : T} (hr : HR Y ρ H h) (r1 : Rp Y ρ H t x) (r2 : Rp Y ρ H u y) (hp : H p = none) : Ev ρ H ρ (upd H p (.tup [x, y])) ∧ HR Y ρ (upd H p (.tup [x, y])) h ∧ Rp Y ρ (upd H p (.tup [x, y])) (.tup [t, u]) (.ref p) := by
  obtain ⟨n1, n2⟩ := newT (vs := [x, y]) hr (.cons r1 (.cons r2 .nil)) (by rw [sizeLine_eq]; exact Nat.le_of_ble_eq_true rfl) hp
  exact ⟨Ev.new hp, n1, n2⟩
theorem wk_enum {t : T} {ρ : Rh} {H : Hp} {a : Addr} (r : Rp Y ρ H t (.ref a)) : Wk Y (Ite Y.K a) (fun h => (listOf h t).map enumT) ρ H := by
  refine ⟨fun ρ1 H1 h ts i u ev hr e ei => ?_, fun ρ1 H1 h ts i ev hr e hl => ?_⟩
  · rw [Option.map_eq_some_iff] at e
    obtain ⟨us, e, rfl⟩ := e
    obtain ⟨b, vs, eb, hs, hz, rs⟩ := listOf_ok (r.ev ev) hr e
    cases eb
    unfold enumT at ei
    rw [List.getElem?_mapIdx] at ei
    cases q : us[i]? with
    | none => rw [q] at ei; cases ei
    | some z =>
      rw [q] at ei
      cases ei
      obtain ⟨w, ew, rw'⟩ := rs.get q
      refine ⟨⟨vs, w, hs, ew⟩, fun x H' y => ?_⟩
      obtain ⟨p, x', rfl, hp, rfl, hx⟩ := y
      have e2 := hx vs hs
      rw [ew] at e2
      cases e2
      exact pair_new hr (.int _) rw' hp
  · rw [Option.map_eq_some_iff] at e
    obtain ⟨us, e, rfl⟩ := e
    obtain ⟨b, vs, eb, hs, hz, rs⟩ := listOf_ok (r.ev ev) hr e
    cases eb
    refine ⟨vs, hs, ?_⟩
    rw [rs.length]
    unfold enumT at hl
    simpa using hl
def iEnumM (g : MA) : MI := fun τ h => match g τ h with
  | .ok [t] h1 => if (listOf h1 t).isSome = true then .ok (fun h => (listOf h t).map enumT) h1 else .bad
  | _ => .bad
theorem xiEnum {e : Expr} {g : MA} {p pos tpos : Pos} {elts : List Expr} {kk : Nat} (hK : X.K = Y.K) (hg : Gl X "enumerate") (hm : X.mg "enumerate" = none) (ha : PA X [e] (TMA Y g)) (hs : starEach [e] X.env = [(false, eval e X.env)] := by rfl) :
    PI X (.Tuple elts kk tpos) (.Call (.Name "enumerate" p) [e] [] pos) (TMI Y (iEnumM g)) := pi_imp (pi_enum hg hm ha hs) fun σ H R q => by
  obtain ⟨ρ, τ, h, rd, h', G, e, to⟩ := q
  unfold iEnumM at e
  split at e
  · rename_i t h1 e1
    split at e
    · rename_i hz
      cases e
      refine ⟨ρ, τ, h, _, _, G, e1, ⟨fun ρ1 H1 vs ev hr r => ?_⟩⟩
      obtain ⟨v, rfl, rv⟩ := rps_one r
      obtain ⟨ts, ets⟩ := Option.isSome_iff_exists.mp hz
      obtain ⟨b, vs, rfl, hs, hz, rs⟩ := listOf_ok rv hr ets
      rw [hK]
      exact ⟨b, vs, rfl, hs, to ρ1 H1 _ ev hr (wk_enum rv)⟩
    · cases e
  · cases e
def zipT (ts us : List T) : List T := List.zipWith (fun t u => T.tup [t, u]) ts us
theorem wk_zip {t u : T} {ρ : Rh} {H : Hp} {a b : Addr} (r1 : Rp Y ρ H t (.ref a)) (r2 : Rp Y ρ H u (.ref b)) : Wk Y (Itz Y.K a b) (fun h => match listOf h t, listOf h u with | some ts, some us => some (zipT ts us) | _, _ => none) ρ H := by
  refine ⟨fun ρ1 H1 h ts i w ev hr e ei => ?_, fun ρ1 H1 h ts i ev hr e hl => ?_⟩
  · split at e
    · rename_i xs ys ex ey
      cases e
      obtain ⟨b1, vs, eb, hs, hz, rs⟩ := listOf_ok (r1.ev ev) hr ex
      cases eb
      obtain ⟨b2, vs2, eb, hs2, hz2, rs2⟩ := listOf_ok (r2.ev ev) hr ey
      cases eb
      unfold zipT at ei
      rw [List.getElem?_zipWith] at ei
      cases q1 : xs[i]? with
      | none => rw [q1] at ei; simp at ei
      | some x =>
        cases q2 : ys[i]? with
        | none => rw [q1, q2] at ei; simp at ei
        | some y =>
          rw [q1, q2] at ei
          simp at ei
          subst ei
          obtain ⟨w1, ew1, rw1⟩ := rs.get q1
          obtain ⟨w2, ew2, rw2⟩ := rs2.get q2
          refine ⟨⟨vs, vs2, w1, w2, hs, hs2, ew1, ew2⟩, fun z H' yl => ?_⟩
          obtain ⟨p, x', y', rfl, hp, rfl, hx, hy⟩ := yl
          have e2 := hx vs hs
          rw [ew1] at e2
          cases e2
          have e3 := hy vs2 hs2
          rw [ew2] at e3
          cases e3
          exact pair_new hr rw1 rw2 hp
    · cases e
  · split at e
    · rename_i xs ys ex ey
      cases e
      obtain ⟨b1, vs, eb, hs, hz, rs⟩ := listOf_ok (r1.ev ev) hr ex
      cases eb
      obtain ⟨b2, vs2, eb, hs2, hz2, rs2⟩ := listOf_ok (r2.ev ev) hr ey
      cases eb
      refine ⟨vs, vs2, hs, hs2, ?_⟩
      rw [rs.length, rs2.length]
      unfold zipT at hl
      simp at hl
      omega
    · cases e
def iZipM (g : MA) : MI := fun τ h => match g τ h with
  | .ok [t, u] h1 => if ((listOf h1 t).isSome && (listOf h1 u).isSome) = true then .ok (fun h => match listOf h t, listOf h u with | some ts, some us => some (zipT ts us) | _, _ => none) h1 else .bad
  | _ => .bad
theorem xiZip {e e2 : Expr} {g : MA} {p pos tpos : Pos} {elts : List Expr} {kk : Nat} (hK : X.K = Y.K) (hg : Gl X "zip") (hm : X.mg "zip" = none) (ha : PA X [e, e2] (TMA Y g)) (hs : starEach [e, e2] X.env = (false, eval e X.env) :: starEach [e2] X.env := by rfl)
    (hpl : (backTo pos (starEach [e2] X.env)).any (·.1) = false := by rfl) : PI X (.Tuple elts kk tpos) (.Call (.Name "zip" p) [e, e2] [] pos) (TMI Y (iZipM g)) := pi_imp (pi_zip hg hm ha hs hpl) fun σ H R q => by
  obtain ⟨ρ, τ, h, rd, h', G, e, to⟩ := q
  unfold iZipM at e
  split at e
  · rename_i t u h1 e1
    split at e
    · rename_i hz
      cases e
      rw [Bool.and_eq_true] at hz
      refine ⟨ρ, τ, h, _, _, G, e1, ⟨fun ρ1 H1 vs ev hr r => ?_⟩⟩
      obtain ⟨v, w, rfl, rv, rw'⟩ := rps_two r
      obtain ⟨ts, ets⟩ := Option.isSome_iff_exists.mp hz.1
      obtain ⟨b, vs, rfl, hs, hz1, rs⟩ := listOf_ok rv hr ets
      obtain ⟨us, eus⟩ := Option.isSome_iff_exists.mp hz.2
      obtain ⟨b2, vs2, rfl, hs2, hz2, rs2⟩ := listOf_ok rw' hr eus
      rw [hK]
      exact ⟨b, b2, vs, vs2, rfl, hs, hs2, to ρ1 H1 _ ev hr (wk_zip rv rw')⟩
    · cases e
  · cases e
def aStar (f : ME) (g : MA) : MA := fun τ h => match f τ h with
  | .ok t h1 => (match seqOf h1 t with
    | some ts => (match g τ h1 with
      | .ok us h2 => .ok (ts ++ us) h2
      | .bad => .bad)
    | none => .bad)
  | .bad => .bad
def sPar3 (i j l : Nat) (g : MA) : MS := fun τ h => match g τ h with
  | .ok [t, u, w] h1 => .nx (((τ.set i (some t)).set j (some u)).set l (some w)) h1
  | _ => .bad
end
end TL
namespace TL
open PySem PySem.Spec L2
section
variable {X : Cx} {Y : Wd}
def MT (Y : Wd) (ty : String) (r : V → List V → Hp → VK → Prop) (b : T → List T → VH → Res T) : Prop := ∀ ρ0 H0 h0 ρ H o ts vo vs h t h' Q, Rp Y ρ0 H0 o vo → HR Y ρ0 H0 h0 → Ev ρ0 H0 ρ H → Rps Y ρ H ts vs → HR Y ρ H h → b o ts h = .ok t h' → To Y (Rp Y) ρ H t h' Q → r vo vs H Q
def tyT (h : VH) (ty : String) : T → Bool
  | .str _ => ty == "str"
  | .lst _ => ty == "list"
  | .ref n => match h[n]? with
    | some (.lst _) => ty == "list"
    | some (.dct _) => ty == "dict"
    | some (.dcT _) => ty == "dict"
    | _ => false
  | _ => false
theorem tyT_ok {ρ : Rh} {H : Hp} {h : VH} {ty : String} {t : T} {v : V} (r : Rp Y ρ H t v) (hr : HR Y ρ H h) (e : tyT h ty t = true) : tyV Y.K ty v H := by
  cases r with
  | str hx => exact eq_of_beq e
  | lst la rs => exact .inl ⟨eq_of_beq e, _, la.sq⟩
  | @ref n a ha =>
    simp only [tyT] at e
    split at e
    · rename_i ts eo
      obtain ⟨vs, h1, hz, h2⟩ := hr.at_ n _ a eo ha
      exact .inl ⟨eq_of_beq e, vs, .inl (.inl h1)⟩
    · rename_i ts eo
      obtain ⟨vs, h1, h2⟩ := hr.at_ n _ a eo ha
      exact .inr (.inr (.inl ⟨eq_of_beq e, .inl ⟨vs, h1⟩⟩))
    · rename_i ts eo
      obtain ⟨vs, h1, h2⟩ := hr.at_ n _ a eo ha
      exact .inr (.inr (.inl ⟨eq_of_beq e, .inr ⟨vs, h1⟩⟩))
    · cases e
  | _ => cases e
def eMt (ty : String) (b : T → List T → VH → Res T) (f : ME) (g : MA) : ME := fun τ h => match f τ h with
  | .ok o h1 => if tyT h1 ty o = true then (match g τ h1 with
    | .ok ts h2 => b o ts h2
    | .bad => .bad) else .bad
  | .bad => .bad
theorem tm_mt {ty : String} {r : V → List V → Hp → VK → Prop} {b : T → List T → VH → Res T} (mt : MT Y ty r b) {f : ME} {g : MA} {σ : St} {H : Hp} {Q : VK} (q : TM Y (eMt ty b f g) σ H Q) : tBM Y.K ty r (TM Y f) (TMA Y g) σ H Q := by
  obtain ⟨ρ, τ, h, t, h', G, e, to⟩ := q
  unfold eMt at e
  cases e1 : f τ h with
  | bad => simp only [e1] at e; cases e
  | ok o h1 =>
    simp only [e1] at e
    split at e
    · rename_i hty
      refine ⟨ρ, τ, h, o, h1, G, e1, ⟨fun ρ1 H1 vo ev hr1 ro => ⟨tyT_ok ro hr1 hty, ?_⟩⟩⟩
      cases e2 : g τ h1 with
      | bad => simp only [e2] at e; cases e
      | ok ts h2 =>
        simp only [e2] at e
        exact ⟨ρ1, τ, h1, ts, h2, G.ev ev hr1, e2, ⟨fun ρ2 H2 vs ev2 hr2 rs => mt ρ1 H1 h1 ρ2 H2 o ts vo vs h2 t h' Q ro hr1 ev2 rs hr2 e (to.ev (ev.trans ev2))⟩⟩
    · cases e
theorem xMt {o e : Expr} {es : List Expr} {f : ME} {g : MA} {name : Str} {apos cpos : Pos} {ty id : String} {r : V → List V → Hp → VK → Prop} {b : T → List T → VH → Res T} (mt : MT Y ty r b) (hK : X.K = Y.K) (pa : PlainAttrs ty) (slot : Slot ty name id) (hty : typeOf (.builtin id) = pure (.type "method_descriptor")) (hm : MtR X id r) (ho : PE X o (TM Y f)) (ha : PA X (e :: es) (TMA Y g))
    (hbase : attributeBase o name X.env (eval o X.env) = eval o X.env := by rfl)
    (hfew : ((backTo cpos (starEach (e :: es) X.env)).all (fun x => !x.1) && (backToKw cpos (keywordEach [] X.env)).all (fun x => x.1.isSome)
      && decide ((e :: es).length + ([] : List Keyword).length + (if ([] : List Keyword).isEmpty then 0 else 1) < 30)) = true := by rfl)
    (hline : (apos.endLine == cpos.line) = true := by rfl) (hs : starEach (e :: es) X.env = (false, eval e X.env) :: starEach es X.env := by rfl) (hplain : (backTo cpos (starEach es X.env)).any (·.1) = false := by rfl) :
    PE X (.Call (.Attribute o name apos) (e :: es) [] cpos) (TM Y (eMt ty b f g)) := pe_imp (pe_bm pa slot hty hm ho ha hbase hfew hline hs hplain) fun σ H Q q => by rw [hK]; exact tm_mt mt q
def mAppend (o : T) (ts : List T) (h : VH) : Res T := match o, ts with
  | .ref n, [y] => (match h[n]? with
    | some (.lst xs) => if xs.length < 16777216 then .ok .non (h.set n (.lst (xs ++ [y]))) else .bad
    | _ => .bad)
  | _, _ => .bad
theorem mt_append' : MT Y "list" rAppend mAppend := fun ρ0 H0 h0 ρ H o ts vo vs h t h' Q ro hr0 ev r hr e to => by
  unfold mAppend at e
  split at e
  · rename_i n y
    split at e
    · rename_i xs eo
      split at e
      · rename_i hz
        cases e
        obtain ⟨v, rfl, rv⟩ := rps_one r
        cases ro with
        | @ref _ a ha =>
          have ha' := ev.toEvR.get ha
          obtain ⟨ws, h1, hz1, rs⟩ := hr.at_ n _ a eo ha'
          have hl := rs.length
          have mem := List.mem_of_getElem? ha'
          have e1 : Ev ρ H ρ (upd H a (.lst (ws ++ [v]))) := Ev.write mem (by rw [h1]; exact fun _ _ z => nomatch z)
          refine ⟨a, ws, v, rfl, rfl, h1, by rw [hl, sizeLine_eq]; exact hz, to.to ρ _ _ e1 (hr.write ha' (by rw [h1]; exact fun _ _ z => nomatch z) ⟨_, upd_same, ?_, (rs.snoc rv).ev e1.toEvR⟩) .non⟩
          rw [List.length_append, hl, sizeLine_eq]
          simp; omega
      · cases e
    · cases e
  · cases e
def mPopAt (o : T) (ts : List T) (h : VH) : Res T := match o, ts with
  | .ref n, [.int i] => (match h[n]? with
    | some (.lst xs) => if -1000000000 ≤ i ∧ i ≤ 1000000000 then (match seqIndex? i xs.length with
      | some k => (match xs[k]? with
        | some y => .ok y (h.set n (.lst (xs.eraseIdx k)))
        | none => .bad)
      | none => .bad) else .bad
    | _ => .bad)
  | _, _ => .bad
theorem Rps.eraseIdx {ρ : Rh} {H : Hp} : ∀ {ts : List T} {vs : List V} (i : Nat), Rps Y ρ H ts vs → Rps Y ρ H (ts.eraseIdx i) (vs.eraseIdx i)
  | _, _, _, .nil => by simp; exact .nil
  | _, _, 0, .cons _ b => b
  | _, _, i + 1, .cons a b => .cons a (Rps.eraseIdx i b)
theorem mt_popAt' : MT Y "list" rPopAt mPopAt := fun ρ0 H0 h0 ρ H o ts vo vs h t h' Q ro hr0 ev r hr e to => by
  unfold mPopAt at e
  split at e
  · rename_i n i
    split at e
    · rename_i xs eo
      split at e
      · rename_i hz
        split at e
        · rename_i k ek
          split at e
          · rename_i y ey
            cases e
            obtain ⟨v, rfl, rv⟩ := rps_one r
            cases rv
            cases ro with
            | @ref _ a ha =>
              have ha' := ev.toEvR.get ha
              obtain ⟨ws, h1, hz1, rs⟩ := hr.at_ n _ a eo ha'
              have hl := rs.length
              have mem := List.mem_of_getElem? ha'
              obtain ⟨w, ew, rw'⟩ := rs.get ey
              have e1 : Ev ρ H ρ (upd H a (.lst (ws.eraseIdx k))) := Ev.write mem (by rw [h1]; exact fun _ _ z => nomatch z)
              refine ⟨a, ws, i, k, w, rfl, rfl, h1, by omega, by omega, by rw [hl]; exact ek, ew, to.to ρ _ _ e1 (hr.write ha' (by rw [h1]; exact fun _ _ z => nomatch z) ⟨_, upd_same, ?_, (rs.eraseIdx k).ev e1.toEvR⟩) (rw'.ev e1.toEvR)⟩
              exact Nat.le_trans (len_erase ws k) hz1
          · cases e
        · cases e
      · cases e
    · cases e
  · cases e
theorem strs_rps {ρ : Rh} {H : Hp} : ∀ {xs : List Str}, (∀ x ∈ xs, x.length ≤ 1000000) → Rps Y ρ H (xs.map T.str) (xs.map V.str)
  | [], _ => .nil
  | x :: xs, h => .cons (.str (h x List.mem_cons_self)) (strs_rps fun y hy => h y (List.mem_cons_of_mem _ hy))
def strsOf : List T → Option (List Str)
  | [] => some []
  | .str i :: r => (strsOf r).map (i :: ·)
  | _ => none
theorem strsOf_ok {ρ : Rh} {H : Hp} : ∀ {ts : List T} {vs : List V} {ns : List Str}, Rps Y ρ H ts vs → strsOf ts = some ns → vs = ns.map V.str
  | [], _, ns, r, e => by cases r; cases e; rfl
  | t :: ts, _, ns, r, e => by
    cases r with
    | cons a b =>
      cases t with
      | str i =>
        simp only [strsOf, Option.map_eq_some_iff] at e
        obtain ⟨ms, e1, rfl⟩ := e
        cases a
        rw [strsOf_ok b e1]; rfl
      | _ => cases e
def rSplit : V → List V → Hp → VK → Prop := fun x xs H Q => ∃ a b, x = .str a ∧ xs = [.str b] ∧ (b.length == 0) = false ∧ a.length + 2 ≤ sizeLine ∧ rNewStrs (Txt.split a b) H Q
def shortAll (xs : List Str) : Bool := xs.all fun x => decide (x.length ≤ 1000000)
def mSplit (o : T) (ts : List T) (h : VH) : Res T := match o, ts with
  | .str a, [.str b] => if ((b.length == 0) = false ∧ (Txt.split a b).length ≤ 16777216) ∧ shortAll (Txt.split a b) = true then .ok (.lst ((Txt.split a b).map T.str)) h else .bad
  | _, _ => .bad
theorem mt_split' : MT Y "str" rSplit mSplit := fun ρ0 H0 h0 ρ H o ts vo vs h t h' Q ro hr0 ev r hr e to => by
  unfold mSplit at e
  split at e
  · rename_i a b
    split at e
    · rename_i hz
      cases e
      obtain ⟨v, rfl, rv⟩ := rps_one r
      cases rv
      cases ro with
      | str hx =>
        refine ⟨a, b, rfl, rfl, hz.1.1, by rw [sizeLine_eq]; omega, fun p hp => ?_⟩
        obtain ⟨n1, n2⟩ := newL' hr (strs_rps fun x hx => of_decide_eq_true (List.all_eq_true.mp hz.2 x hx)) (by rw [List.length_map, sizeLine_eq]; exact hz.1.2) hp
        exact to.to ρ _ _ (Ev.new hp) n1 n2
    · cases e
  · cases e
def rJoin (K : PySem.W.Frag) : V → List V → Hp → VK → Prop := fun x xs H Q => ∃ a p, ∃ ys : List Str, x = .str a ∧ xs = [.ref p] ∧ (SqL K H p (ys.map V.str) ∨ SqT K H p (ys.map V.str)) ∧
    (ys.map (·.length)).sum + ys.length * a.length ≤ 16777216 ∧ Q (.str (Txt.join a ys)) H
def mJoin (o : T) (ts : List T) (h : VH) : Res T := match o, ts with
  | .str a, [t] => (match seqOf h t with
    | some us => (match strsOf us with
      | some ys => if (ys.map (·.length)).sum + ys.length * a.length ≤ 1000000 then .ok (.str (Txt.join a ys)) h else .bad
      | none => .bad)
    | none => .bad)
  | _, _ => .bad
theorem mt_join' : MT Y "str" (rJoin Y.K) mJoin := fun ρ0 H0 h0 ρ H o ts vo vs h t h' Q ro hr0 ev r hr e to => by
  unfold mJoin at e
  split at e
  · rename_i a t
    split at e
    · rename_i us e1
      split at e
      · rename_i ys e2
        split at e
        · rename_i hz
          cases e
          obtain ⟨v, rfl, rv⟩ := rps_one r
          obtain ⟨p, ws, rfl, hs, hz1, rs⟩ := seqOf_ok rv hr e1
          rw [strsOf_ok rs e2] at hs
          cases ro with
          | str hx =>
            refine ⟨a, p, ys, rfl, rfl, hs, by omega, to.to ρ H _ .refl hr (.str ?_)⟩
            unfold Txt.join
            rw [StrLaws.glued_eq_join]
            exact Nat.le_trans (StrLaws.join_length_le a ys) hz
        · cases e
      · cases e
    · cases e
  · cases e
def bSetL (o i t : T) (h : VH) : Res Unit := match o, i with
  | .ref n, .int k => (match h[n]? with
    | some (.lst xs) => (match ixN xs.length k with
      | some j => .ok () (h.set n (.lst (xs.set j t)))
      | none => .bad)
    | _ => .bad)
  | _, _ => .bad
theorem st_setL : ST Y rSetL bSetL := fun ρ H o i t vo vi v h h' Q ro ri rt hr e to => by
  unfold bSetL at e
  split at e
  · rename_i n k
    split at e
    · rename_i xs eo
      split at e
      · rename_i j ej
        cases e
        cases ri
        cases ro with
        | @ref _ a ha =>
          obtain ⟨ws, h1, hz1, rs⟩ := hr.at_ n _ a eo ha
          have e1 : Ev ρ H ρ (upd H a (.lst (ws.set j v))) := Ev.write (List.mem_of_getElem? ha) (by rw [h1]; exact fun _ _ z => nomatch z)
          exact ⟨a, ws, k, j, rfl, rfl, h1, by rw [rs.length]; exact ej, to ρ _ e1 (hr.write ha (by rw [h1]; exact fun _ _ z => nomatch z) ⟨_, upd_same, by rw [List.length_set]; exact hz1, (rs.set rt j).ev e1.toEvR⟩)⟩
      · cases e
    · cases e
  · cases e
theorem xGlob {x : Str} {v : V} {u : Value} {t : T} {pos : Pos} (hg : Gl X x) (hm : X.mg x = some u) (r : RelV v u) (rp : ∀ ρ H, Rp Y ρ H t v) (hd : (x == ("__debug__" : Str)) = false := by decide) : PE X (.Name x pos) (TM Y (eK t)) :=
  pe_imp (pe_glob hg hm r hd) fun σ H Q q => tm_k rp σ H Q q
def getI (h : VH) : T → Option (Nat × List T)
  | .obj c fs => some (c, fs)
  | .ref n => match h[n]? with
    | some (.ins c fs) => some (c, fs)
    | _ => none
  | _ => none
theorem getI_ok {ρ : Rh} {H : Hp} {h : VH} {t : T} {v : V} {c : Nat} {fs : List T} (r : Rp Y ρ H t v) (hr : HR Y ρ H h) (e : getI h t = some (c, fs)) : ∃ a C dx vfs, v = .ref a ∧ Y.cm c = some C ∧ H a = some (.ins C dx vfs) ∧ vfs.map (·.1) = (Y.fn c).take fs.length ∧ Rps Y ρ H fs (vfs.map (·.2)) := by
  cases r with
  | obj hc ho hh hn rs => cases e; exact ⟨_, _, _, _, rfl, hc, hh, hn, rs⟩
  | @ref n a ha =>
    simp only [getI] at e
    split at e
    · rename_i c' fs' eo
      cases e
      obtain ⟨C, dx, vfs, hc, h1, hn, rs⟩ := hr.at_ n _ a eo ha
      exact ⟨a, C, dx, vfs, rfl, hc, h1, hn, rs⟩
    · cases e
  | _ => cases e
theorem lookup_at : ∀ {vfs : List (Str × V)} {i : Nat} {f : Str} {v : V}, (vfs.map (·.1)).Nodup → (vfs.map (·.1))[i]? = some f → (vfs.map (·.2))[i]? = some v → vfs.lookup f = some v
  | [], _, _, _, _, h, _ => by simp at h
  | (g, w) :: r, 0, f, v, hn, h1, h2 => by
    simp at h1 h2
    subst h1 h2
    simp [List.lookup]
  | (g, w) :: r, i + 1, f, v, hn, h1, h2 => by
    simp at h1 h2
    rw [List.map_cons, List.nodup_cons] at hn
    have ne : (f == g) = false := by
      apply beq_false_of_ne
      intro z
      subst z
      obtain ⟨w', hw'⟩ := h1
      exact hn.1 (List.mem_map.mpr ⟨_, List.mem_of_getElem? hw', rfl⟩)
    simp only [List.lookup, ne]
    exact lookup_at hn.2 (by simpa using h1) (by simpa using h2)
end
end TL
namespace TL
open PySem PySem.Spec L2
section
variable {X : Cx} {Y : Wd}
theorem take_nodup {α : Type} {l : List α} (h : l.Nodup) (n : Nat) : (l.take n).Nodup := h.sublist (List.take_sublist n l)
theorem take_at {α : Type} {l : List α} {n i : Nat} {x : α} (h : l[i]? = some x) (hi : i < n) : (l.take n)[i]? = some x := by
  rw [List.getElem?_take_of_lt hi]; exact h
def eFld (c i : Nat) (f : ME) : ME := fun τ h => match f τ h with
  | .ok t h1 => (match getI h1 t with
    | some (c', fs) => if c' = c then (match fs[i]? with
      | some u => .ok u h1
      | none => .bad) else .bad
    | none => .bad)
  | .bad => .bad
theorem xFld {c i : Nat} {C : Addr} {e : Expr} {f : Str} {g : ME} {pos : Pos} (hK : X.K = Y.K) (hc : Y.cm c = some C) (hf : (Y.fn c)[i]? = some f) (hn : (Y.fn c).Nodup) (cl : Cls Y.K C) (na : NoAttr Y.K C f) (he : PE X e (TM Y g)) (hb : attributeBase e f X.env (eval e X.env) = eval e X.env := by rfl) :
    PE X (.Attribute e f pos) (TM Y (eFld c i g)) := pe_imp (pe_fld he hb) fun σ H Q q => by
  obtain ⟨ρ, τ, h, t, h', G, e, to⟩ := q
  unfold eFld at e
  cases e1 : g τ h with
  | bad => simp only [e1] at e; cases e
  | ok o h1 =>
    simp only [e1] at e
    split at e
    · rename_i c' fs eo
      split at e
      · rename_i ec
        subst ec
        split at e
        · rename_i u eu
          cases e
          refine ⟨ρ, τ, h, o, _, G, e1, ⟨fun ρ1 H1 v ev hr r => ?_⟩⟩
          obtain ⟨a, C', dx, vfs, rfl, hc', ha, hm, rs⟩ := getI_ok r hr eo
          rw [hc] at hc'
          cases hc'
          obtain ⟨w, ew, rw'⟩ := rs.get eu
          have hi : i < fs.length := (List.getElem?_eq_some_iff.mp eu).1
          rw [hK]
          exact ⟨a, C, dx, vfs, w, rfl, ha, cl, na, lookup_at (by rw [hm]; exact take_nodup hn _) (by rw [hm]; exact take_at hf hi) ew, to.to ρ1 H1 _ ev hr rw'⟩
        · cases e
      · cases e
    · cases e
def gFldR (K : PySem.W.Frag) (ta : TE) (f : Str) : TG := fun v σ H Q => ta σ H fun x H2 => ∃ a C dx fs, x = .ref a ∧ H2 a = some (.ins C dx fs) ∧ Cls K C ∧ NoAttr K C f ∧ fs.length < 1000 ∧ Q σ (upd H2 a (.ins C dx (putF f v fs)))
theorem pg_fldR {o : Expr} {f : Str} {ta : TE} {pos : Pos} (ha : PE X o ta) : PG X (.Attribute o f pos) (gFldR X.K ta f) := by
  refine ⟨fun pins s σ H v u Q I r h => ?_⟩
  refine PySem.W.kas_attr (thn (ha.run pins s σ H _ I h) fun ov s2 ⟨x, H2, I2, rx, a, C, dx, fs, ex, ea, c, n, l, q2⟩ => ?_)
  subst ex
  obtain rfl : ov = Value.ref a := rx
  exact setattr_ok I2 ea c n l r fun s3 I3 => ⟨σ, _, I3, q2⟩
theorem putF_new : ∀ {vfs : List (Str × V)} {f : Str} {v : V}, f ∉ vfs.map (·.1) → putF f v vfs = vfs ++ [(f, v)]
  | [], f, v, _ => rfl
  | (g, w) :: r, f, v, h => by
    simp only [List.map_cons, List.mem_cons, not_or] at h
    unfold putF
    rw [if_neg (fun z => h.1 z.symm), putF_new h.2]
    rfl
theorem putF_old : ∀ {vfs : List (Str × V)} {i : Nat} {f : Str} {v : V}, (vfs.map (·.1)).Nodup → (vfs.map (·.1))[i]? = some f → (putF f v vfs).map (·.1) = vfs.map (·.1) ∧ (putF f v vfs).map (·.2) = (vfs.map (·.2)).set i v
  | [], _, _, _, _, h => by simp at h
  | (g, w) :: r, 0, f, v, hn, h1 => by
    simp at h1
    subst h1
    unfold putF
    simp
  | (g, w) :: r, i + 1, f, v, hn, h1 => by
    simp at h1
    rw [List.map_cons, List.nodup_cons] at hn
    have ne : ¬ f = g := fun z => by
      subst z
      obtain ⟨w', hw'⟩ := h1
      exact hn.1 (List.mem_map.mpr ⟨_, List.mem_of_getElem? hw', rfl⟩)
    unfold putF
    rw [if_neg (fun z => ne z.symm)]
    obtain ⟨q1, q2⟩ := putF_old (v := v) hn.2 (by simpa using h1)
    simp [q1, q2]
def mgFld (c i : Nat) (f : ME) : MG := fun t τ h => match f τ h with
  | .ok (.ref n) h1 => (match h1[n]? with
    | some (.ins c' fs) => if c' = c ∧ i ≤ fs.length then .ok τ (h1.set n (.ins c (if i < fs.length then fs.set i t else fs ++ [t]))) else .bad
    | _ => .bad)
  | _ => .bad
theorem ins_set {ρ : Rh} {H : Hp} {n : Nat} {a : Addr} {c i : Nat} {C dx : Addr} {fs : List T} {vfs : List (Str × V)} {f : Str} {t : T} {v : V} {h : VH} (hr : HR Y ρ H h) (ha : ρ.ix[n]? = some a) (hc : Y.cm c = some C) (hf : (Y.fn c)[i]? = some f) (hn : (Y.fn c).Nodup)
    (hm : vfs.map (·.1) = (Y.fn c).take fs.length) (rs : Rps Y ρ H fs (vfs.map (·.2))) (rt : Rp Y ρ H t v) (hi : i ≤ fs.length) (hh : H a = some (.ins C dx vfs)) :
    HR Y ρ (upd H a (.ins C dx (putF f v vfs))) (h.set n (.ins c (if i < fs.length then fs.set i t else fs ++ [t]))) := by
  have e1 : Ev ρ H ρ (upd H a (.ins C dx (putF f v vfs))) := Ev.write (List.mem_of_getElem? ha) (by rw [hh]; exact fun _ _ z => nomatch z)
  have hl : vfs.length = fs.length := by have := rs.length; simpa using this
  have hlen : ((Y.fn c).take fs.length).length = fs.length := by rw [← hm, List.length_map, hl]
  refine hr.write ha (by rw [hh]; exact fun _ _ z => nomatch z) ?_
  by_cases q : i < fs.length
  · rw [if_pos q]
    obtain ⟨q1, q2⟩ := putF_old (v := v) (vfs := vfs) (i := i) (f := f) (by rw [hm]; exact take_nodup hn _) (by rw [hm]; exact take_at hf q)
    refine ⟨C, dx, _, hc, upd_same, ?_, ?_⟩
    · rw [q1, hm, List.length_set]
    · rw [q2]
      exact (rs.set rt i).ev e1.toEvR
  · rw [if_neg q]
    have ei : i = fs.length := by omega
    have nin : f ∉ vfs.map (·.1) := by
      rw [hm]
      intro z
      obtain ⟨j, hj, ej⟩ := List.getElem_of_mem z
      rw [List.getElem_take] at ej
      have hj2 : j < fs.length := by rw [hlen] at hj; exact hj
      obtain ⟨hi3, e3⟩ := List.getElem?_eq_some_iff.mp hf
      have := (List.getElem_inj hn).mp (ej.trans e3.symm)
      omega
    refine ⟨C, dx, _, hc, upd_same, ?_, ?_⟩
    · rw [putF_new nin, List.map_append, hm, List.length_append]
      simp only [List.map_cons, List.map_nil, List.length_singleton]
      rw [List.take_succ, ← ei, hf]
      rfl
    · have z := (rs.snoc rt).ev e1.toEvR
      rw [putF_new nin] at z ⊢
      rw [List.map_append]
      exact z
theorem xgFld {c i : Nat} {C : Addr} {o : Expr} {f : Str} {g : ME} {pos : Pos} (hK : X.K = Y.K) (hc : Y.cm c = some C) (hf : (Y.fn c)[i]? = some f) (hn : (Y.fn c).Nodup) (hz : (Y.fn c).length < 1000) (cl : Cls Y.K C) (na : NoAttr Y.K C f) (ho : PE X o (TM Y g)) : PG X (.Attribute o f pos) (TMG Y (mgFld c i g)) :=
  pg_imp (pg_fldR ho) fun v σ H Q q => by
    obtain ⟨ρ, τ, h, t, τ', h', G, r, e, to⟩ := q
    unfold mgFld at e
    split at e
    · rename_i n h1 e1
      split at e
      · rename_i c' fs eo
        split at e
        · rename_i q
          obtain ⟨rfl, hi⟩ := q
          cases e
          refine ⟨ρ, τ, h, _, h1, G, e1, ⟨fun ρ1 H1 w ev hr1 rw' => ?_⟩⟩
          cases rw' with
          | @ref _ a ha =>
            obtain ⟨C', dx, vfs, hc', hh, hm, rs⟩ := hr1.at_ n _ a eo ha
            rw [hc] at hc'
            cases hc'
            rw [hK]
            have hl : vfs.length = fs.length := by have := rs.length; simpa using this
            have hlen : fs.length ≤ (Y.fn c').length := by
              have := congrArg List.length hm
              rw [List.length_map, List.length_take] at this
              omega
            have hw := ins_set (dx := dx) (i := i) hr1 ha hc hf hn hm rs (r.ev ev.toEvR) hi hh
            have ev1 : Ev ρ1 H1 ρ1 (upd H1 a (.ins C dx (putF f v vfs))) := Ev.write (List.mem_of_getElem? ha) (by rw [hh]; exact fun _ _ z => nomatch z)
            exact ⟨a, C, dx, vfs, rfl, hh, cl, na, by omega, to ρ1 _ σ (ev.trans ev1) hw (G.sl.ev (ev.trans ev1).toEvR)⟩
        · cases e
      · cases e
    · cases e
def rMake (C : Addr) (sp : Sp) (E : XK) : List V → Hp → VK → Prop := fun vs H1 Q => ∀ x dx, H1 x = none → H1 dx = none → dx ≠ x → sp (V.ref x :: (vs ++ [])) (upd (upd H1 dx (HO.own x)) x (HO.ins C dx [])) (fun v H2 => v = V.non ∧ Q (V.ref x) H2) E
def makeM (c : Nat) (m : List T → VH → Res T) : List T → VH → Res T := fun ts h => match m (.ref h.length :: ts) (h ++ [.ins c []]) with
  | .ok .non h' => .ok (.ref h.length) h'
  | _ => .bad
theorem ct_make {c : Nat} {C : Addr} {m : List T → VH → Res T} {E : XK} (hc : Y.cm c = some C) : CT Y (rMake C (spM Y m) E) (makeM c m) := fun ρ H ts vs h t h' Q r hr e to => by
  unfold makeM at e
  split at e
  · rename_i h1 e1
    cases e
    intro x dx hx hdx hne
    rw [List.append_nil]
    have evd : Ev ρ H ρ (upd H dx (.own x)) := Ev.new hdx
    have hr1 : HR Y ρ (upd H dx (.own x)) h := hr.new hdx
    have hx1 : (upd H dx (.own x)) x = none := by rw [upd_ne (fun z => hne z.symm)]; exact hx
    have evx : Ev ρ (upd H dx (.own x)) (ρ.push x) (upd (upd H dx (.own x)) x (.ins C dx [])) := Ev.newρ hx1
    have hr2 : HR Y (ρ.push x) (upd (upd H dx (.own x)) x (.ins C dx [])) (h ++ [.ins c []]) := hr1.push hx1 ⟨C, dx, [], hc, upd_same, by simp, .nil⟩
    have ev2 := evd.trans evx
    have hix : (ρ.push x).ix[h.length]? = some x := by
      show (ρ.ix ++ [x])[h.length]? = _
      rw [List.getElem?_append_right (by rw [hr.len]; exact Nat.le_refl _), hr.len]
      simp
    refine ⟨ρ.push x, _, _, _, _, .cons (.ref hix) (r.ev ev2.toEvR), hr2, e1, ⟨fun ρ3 H3 v ev3 hr3 r3 => ?_⟩⟩
    cases r3
    exact ⟨rfl, to.to ρ3 H3 _ (ev2.trans ev3) hr3 (.ref (ev3.toEvR.get hix))⟩
  · cases e
def VO.lowR (n : Nat) : VO → Bool
  | .lst ts => lowRs n ts
  | .ins _ fs => lowRs n fs
  | .dct kvs => lowRs n (kvs.map (·.1)) && lowRs n (kvs.map (·.2))
  | .dcT kvs => lowRs n (kvs.map (·.2))
  | .dcF kvs => lowRs n (kvs.map (·.1)) && lowRs n (kvs.map (·.2))
  | .dcN kvs => lowRs n (kvs.map (·.1)) && lowRs n (kvs.map (·.2))
  | .tab _ => true
theorem OR.cut {ρ ρ' : Rh} {H : Hp} (s : Sub ρ ρ') {a : Addr} {o : VO} (r : OR Y ρ' H a o) (q : o.lowR ρ.ix.length = true) : OR Y ρ H a o := by
  cases o with
  | lst ts => obtain ⟨vs, h1, hz, h2⟩ := r; exact ⟨vs, h1, hz, h2.down s q⟩
  | ins c fs => obtain ⟨C, dx, vfs, hc, h1, hn, h2⟩ := r; exact ⟨C, dx, vfs, hc, h1, hn, h2.down s q⟩
  | dct kvs =>
    simp only [VO.lowR, Bool.and_eq_true] at q
    obtain ⟨vk, h1, h2, h3⟩ := r
    exact ⟨vk, h1, h2.down s q.1, h3.down s q.2⟩
  | dcT kvs => obtain ⟨vk, h1, h2, h3⟩ := r; exact ⟨vk, h1, h2, h3.down s q⟩
  | dcF kvs =>
    simp only [VO.lowR, Bool.and_eq_true] at q
    obtain ⟨z, vk, h1, h2, h3⟩ := r
    exact ⟨z, vk, h1, h2.down s q.1, h3.down s q.2⟩
  | dcN kvs =>
    simp only [VO.lowR, Bool.and_eq_true] at q
    obtain ⟨xs, h1, h0, h2, h3⟩ := r
    exact ⟨xs, h1, h0, h2.down s q.1, h3.down s q.2⟩
  | tab nm => exact ⟨r.1, TbAt.to r.2 rfl fun c o z => ⟨s.out o, z⟩⟩
theorem HR.cut {ρ ρ' : Rh} {H H0 : Hp} {h h' : VH} (s : Sub ρ ρ') (r : HR Y ρ' H h') (q : HR Y ρ H0 h) (e : (h'.take h.length).all (VO.lowR h.length) = true) : HR Y ρ H (h'.take h.length) := by
  obtain ⟨m, em⟩ := s.ix
  have hl : ρ'.ix.length = h'.length := r.len
  have hl0 : ρ.ix.length = h.length := q.len
  have hle : h.length ≤ h'.length := by rw [← hl, em, List.length_append, hl0]; omega
  refine ⟨by rw [List.length_take, hl0]; omega, q.nd, fun a ha => ?_, fun a ha => r.bl a (by rw [s.bn]; exact ha), fun n o a h1 h2 => ?_, r.tbTo (fun _ o _ => s.out o) fun _ _ _ => rfl⟩
  · obtain ⟨b1, b2⟩ := r.bt a (by rw [s.bn]; exact ha)
    exact ⟨b1, fun z => b2 (by rw [em]; exact List.mem_append_left _ z)⟩
  · have hn : n < ρ.ix.length := (List.getElem?_eq_some_iff.mp h2).1
    have h3 : h'[n]? = some o := by
      rw [List.getElem?_take_of_lt (by rw [← hl0]; exact hn)] at h1
      exact h1
    have h4 : ρ'.ix[n]? = some a := by
      rw [em, List.getElem?_append_left hn]
      exact h2
    exact (r.at_ n o a h3 h4).cut s (by rw [hl0]; exact List.all_eq_true.mp e o (List.mem_of_getElem? h1))
def cutM (m : List T → VH → Res T) : List T → VH → Res T := fun ts h => match m ts h with
  | .ok t h' => if (h'.take h.length).all (VO.lowR h.length) = true then (match frz h.length h' 4 t with
    | some u => .ok u (h'.take h.length)
    | none => .bad) else .bad
  | .bad => .bad
theorem to_cut {ρ : Rh} {H : Hp} {h h' : VH} {t u : T} {Q : VK} (hr : HR Y ρ H h) (hq : (h'.take h.length).all (VO.lowR h.length) = true) (ef : frz h.length h' 4 t = some u) (to : To Y (Rp Y) ρ H u (h'.take h.length) Q) : To Y (Rp Y) ρ H t h' Q :=
  ⟨fun ρ' H' v ev hr' rv => by
    have s : Sub ρ ρ' := ⟨let ⟨m, e, _⟩ := ev.more; ⟨m, e⟩, ev.bn⟩
    have ex : Ev ρ H ρ H' := .mk' ⟨[], by simp⟩ rfl ev.keep ev.there ev.fz
    exact to.to ρ H' v ex (hr'.cut s hr hq) (frz_ok s hr' 4 t v _ rv (by rw [hr.len]; exact ef))⟩
theorem ct_cut {r : List V → Hp → VK → Prop} {m : List T → VH → Res T} (ct : CT Y r m) : CT Y r (cutM m) := fun ρ H ts vs h u h1 Q rs hr e to => by
  unfold cutM at e
  split at e
  · rename_i t h' em
    split at e
    · rename_i hq
      split at e
      · rename_i u' ef
        cases e
        exact ct ρ H ts vs h t h' Q rs hr em (to_cut hr hq ef to)
      · cases e
    · cases e
  · cases e
theorem spM_cut {m : List T → VH → Res T} {vs : List V} {H : Hp} {Q : VK} {E : XK} (q : spM Y (cutM m) vs H Q E) : spM Y m vs H Q E := by
  obtain ⟨ρ, ts, h, u, h1, r, hr, e, to⟩ := q
  unfold cutM at e
  split at e
  · rename_i t h' em
    split at e
    · rename_i hq
      split at e
      · rename_i u' ef
        cases e
        exact ⟨ρ, ts, _, t, h', r, hr, em, to_cut hr hq ef to⟩
      · cases e
    · cases e
  · cases e
theorem fnCut {P : Program} {w : World} {K : PySem.W.Frag} {mg : Str → Option Value} {base : Heap} {k : Nat} {f : Addr} {fd : FuncData} {ps : List Str} {m : List T → VH → Res T} (F : FnOk P w K mg base CX0 k f fd ps (spM Y m)) : FnOk P w K mg base CX0 k f fd ps (spM Y (cutM m)) :=
  F.imp fun _ _ _ _ q => spM_cut q
theorem xMake {c k : Nat} {f C : Addr} {fd : FuncData} {ps : List Str} {m : List T → VH → Res T} {x : Str} {p pos : Pos} {e : Expr} {es : List Expr} {g : MA} (hc : Y.cm c = some C) (M : Mk X.K C f) (F : FnOk X.prog X.w X.K X.mg X.base CX0 k f fd ps (spM Y m)) (hr : Room (k + 1) X.A) (hg : Gl X x) (hm : X.mg x = some (.ref C)) (hb : Binds X.K fd ps [])
    (ha : PA X (e :: es) (TMA Y g)) (hdb : (x == ("__debug__" : Str)) = false := by decide) (he : starEach (e :: es) X.env = (false, eval e X.env) :: starEach es X.env := by rfl) (hpl : (backTo pos (starEach es X.env)).any (·.1) = false := by rfl) :
    PE X (.Call (.Name x p) (e :: es) [] pos) (TM Y (eCall (cutM (makeM c m)) g)) := pe_imp (pe_make M F hr hg hm hb .nil pass0 ha hdb he hpl) fun σ H Q q => tm_call (ct_cut (ct_make (E := E0) hc)) q
inductive TyC where
  | b (n : String) | o (c : Nat)
def tyOf (h : VH) : T → Option TyC
  | .non => some (.b "NoneType")
  | .bl _ => some (.b "bool")
  | .int _ => some (.b "int")
  | .str _ => some (.b "str")
  | .tup _ => some (.b "tuple")
  | .lst _ => some (.b "list")
  | .arg _ => none
  | .tpx _ => none
  | .exc _ _ _ _ _ => none
  | .obj c _ => some (.o c)
  | .ref n => match h[n]? with
    | some (.lst _) => some (.b "list")
    | some (.ins c _) => some (.o c)
    | some (.dct _) => some (.b "dict")
    | some (.dcT _) => some (.b "dict")
    | some (.dcF _) => none
    | some (.dcN _) => none
    | some (.tab _) => none
    | none => none
def TyC.v (Y : Wd) : TyC → Value → Prop
  | .b n, u => u = .type n
  | .o c, u => ∃ C, Y.cm c = some C ∧ u = .ref C
def tyNames : List String := ["NoneType", "bool", "int", "str", "tuple", "list", "dict"]
def TyC.fit : TyC → Bool
  | .b n => tyNames.contains n
  | .o _ => true
structure CF (K : PySem.W.Frag) (C : Addr) : Prop where
  cls : Cls K C
  at_ : PySem.W.findIn K (.ref C) "__class__" = some (some (.builtin "object.__class__"))
  sp : PySem.W.specialIn K (.builtin "object.__class__") "__get__" = some (some (.builtin "getset_descriptor.__get__"))
  tk : PySem.W.takesIn K (.builtin "object.__class__") = some true
  mro : PySem.W.mroIn K C (.type "object") = some true
def WdOk (Y : Wd) : Prop := ∀ c C, Y.cm c = some C → CF Y.K C
theorem tyOf_ok (ok : WdOk Y) {ρ : Rh} {H : Hp} {h : VH} {t : T} {v : V} {y : TyC} (r : Rp Y ρ H t v) (hr : HR Y ρ H h) (e : tyOf h t = some y) : y.fit = true ∧ ∃ u, y.v Y u ∧ TyX Y.K H v u := by
  cases r with
  | non => cases e; exact ⟨rfl, _, rfl, .base .non⟩
  | bl b => cases e; exact ⟨rfl, _, rfl, .base (.bl b)⟩
  | int i => cases e; exact ⟨rfl, _, rfl, .base (.int i)⟩
  | str hx => cases e; exact ⟨rfl, _, rfl, .base (.str _)⟩
  | lst la rs => cases e; exact ⟨rfl, _, rfl, .base (.lst la.2.2)⟩
  | arg la rs => cases e
  | tpx la rs => cases e
  | exc _ _ _ => cases e
  | tup ta rs =>
    cases e
    refine ⟨rfl, _, rfl, ?_⟩
    rcases ta.2 with ⟨_, h1 | ⟨o, h1⟩⟩ | ⟨o, its, n, h1, h2, _⟩
    · exact .base (.tup h1)
    · exact .fTuple h1
    · exact .kTuple h1 h2
  | obj hc ho hh hn rs =>
    cases e
    have f := ok _ _ hc
    exact ⟨rfl, _, ⟨_, hc, rfl⟩, .base (.ins hh f.cls f.at_ f.sp f.tk f.mro)⟩
  | @ref n a ha =>
    simp only [tyOf] at e
    cases q : h[n]? with
    | none => rw [q] at e; cases e
    | some o =>
      rw [q] at e
      have z := hr.at_ n o a q ha
      cases o with
      | lst ts => cases e; obtain ⟨vs, h1, _⟩ := z; exact ⟨rfl, _, rfl, .base (.lst h1)⟩
      | ins c fs =>
        cases e
        obtain ⟨C, dx, vfs, hc, h1, _⟩ := z
        have f := ok _ _ hc
        exact ⟨rfl, _, ⟨_, hc, rfl⟩, .base (.ins h1 f.cls f.at_ f.sp f.tk f.mro)⟩
      | dct kvs => cases e; obtain ⟨vk, h1, _⟩ := z; exact ⟨rfl, _, rfl, .base (.dK h1)⟩
      | dcT kvs => cases e; obtain ⟨vk, h1, _⟩ := z; exact ⟨rfl, _, rfl, .base (.dT h1)⟩
      | dcF kvs => cases e
      | dcN kvs => cases e
      | tab nm => cases e
def isiB : TyC → TyC → Bool
  | .b m, .b n => m == n || (m == "bool" && n == "int")
  | .o c, .o d => c == d
  | _, _ => false
def eIsi (y : TyC) (f : ME) : ME := fun τ h => match f τ h with
  | .ok t h1 => (match tyOf h1 t with
    | some x => .ok (.bl (isiB x y)) h1
    | none => .bad)
  | .bad => .bad
theorem xIsi {y : TyC} {e ce : Expr} {f : ME} {p pos : Pos} {cv : V} {cu : Value} (hK : X.K = Y.K) (ok : WdOk Y) (hy : y.v Y cu) (hcv : ClsV cv cu) (hi : ∀ x u, x.fit = true → x.v Y u → PySem.W.kitOne Y.K u cu = some (isiB x y)) (he : PE X e (TM Y f)) (hc : PE X ce (tC cv))
    (hg : Gl X "isinstance") (hm : X.mg "isinstance" = none) (hs2 : starEach [ce] X.env = (false, eval ce X.env) :: starEach [] X.env := by rfl)
    (hs : starEach [e, ce] X.env = (false, eval e X.env) :: starEach [ce] X.env := by rfl) (hpl : (backTo pos (starEach [ce] X.env)).any (·.1) = false := by rfl) :
    PE X (.Call (.Name "isinstance" p) [e, ce] [] pos) (TM Y (eIsi y f)) := pe_imp (pe_callB call_isi hg hm rfl (pa_cons he (pa_cons hc pa_nil hs2) hs) (by decide) (by decide) hs hpl) fun σ H Q q => by
  obtain ⟨ρ, τ, h, t, h', G, e, to⟩ := q
  unfold eIsi at e
  cases e1 : f τ h with
  | bad => simp only [e1] at e; cases e
  | ok o h1 =>
    simp only [e1] at e
    split at e
    · rename_i yo eo
      cases e
      refine ⟨ρ, τ, h, o, _, G, e1, ⟨fun ρ1 H1 v ev hr r => ?_⟩⟩
      obtain ⟨hf, u, hu, ty⟩ := tyOf_ok ok r hr eo
      refine ⟨v, cv, u, cu, _, rfl, hcv, by rw [hK]; exact ty, by rw [hK]; exact hi _ _ hf hu, to.to ρ1 H1 _ ev hr (.bl _)⟩
    · cases e
end
end TL
namespace TL
open PySem PySem.Spec L2 PyProof.Rows
section
variable {P : Program} {w : World} {K : PySem.W.Frag} {e it : Addr} {n : Nat} {g : Nat → V} {St : Nat → Heap → Prop}
theorem pair_ok {X : Cx} {H : Hp} {h : Heap} {T : Addr} {i : Nat} {tk : Tok} {x : V} {v : Value} (r : RelV x v) (at_ : h.get? T = some { cls := .type "tuple", data := .seq #[.int (i : Int) tk, v] }) : ObjOk X.prog X.w (upd H T (.tup [.int (i : Nat), x])) h T (.tup [.int (i : Nat), x]) :=
  ⟨(by decide : 2 ≤ sizeLine), _, .cons ⟨tk, rfl⟩ (.cons r .nil), _, at_, rfl, _, rfl⟩
end
section
variable {X : Cx} {Y : Wd}
structure KD (Y : Wd) (w : World) (d : Addr) (kvs : List (Str × T)) : Prop where
  kd : ∃ es n, KDict Y.K w d es n ∧ es.toList.map (fun e => match e.key with | .str x _ => some x | _ => none) = kvs.map fun q => some q.1
  val : ∀ k t, kvs.lookup k = some t → ∃ u v, PySem.W.nsIn Y.K d k = some (some u) ∧ RelV v u ∧ ∀ ρ H, Rp Y ρ H t v
  miss : ∀ k, kvs.lookup k = none → PySem.W.nsIn Y.K d k = some none
theorem KD.some {d : Addr} {w : World} {kvs : List (Str × T)} (D : KD Y w d kvs) (z : Str) : ∃ r, PySem.W.nsIn Y.K d z = some r ∧ r.isSome = (kvs.lookup z).isSome := by
  cases q : kvs.lookup z with
  | none => exact ⟨_, D.miss z q, rfl⟩
  | some t =>
    obtain ⟨u', v', e1, e2, e3⟩ := D.val _ _ q
    exact ⟨_, e1, rfl⟩
end
end TL
namespace TL
open PySem PySem.Spec L2
section
variable {X : Cx} {Y : Wd}
theorem ot_eq : OT Y (rEqP Y.K fun d e => PyData.eqv d e) bEq := ot_eqG _
theorem ot_ne : OT Y (rEqP Y.K fun d e => !PyData.eqv d e) bNe := ot_eqG _
theorem ot_lt : OT Y (rO Y.K (fun d e => PySem.W.dataLt d e) fun i j => decide (i < j)) bLt := ot_ord _ _
theorem ot_le : OT Y (rO Y.K (fun d e => !PySem.W.dataLt e d) fun i j => decide (i ≤ j)) bLe := ot_ord _ _
theorem ot_gt : OT Y (rO Y.K (fun d e => PySem.W.dataLt e d) fun i j => decide (j < i)) bGt := ot_ord _ _
theorem ot_ge : OT Y (rO Y.K (fun d e => !PySem.W.dataLt d e) fun i j => decide (j ≤ i)) bGe := ot_ord _ _
theorem ot_inT : OT Y (rInA Y.K false) bIn := ot_in _
theorem ot_ninT : OT Y (rInA Y.K true) bNin := ot_in _
theorem xGInt {x : Str} {i : Int} {pos : Pos} (hg : Gl X x) (h : ∃ t, X.mg x = some (.int i t)) (hd : (x == ("__debug__" : Str)) = false := by decide) : PE X (.Name x pos) (TM Y (eK (.int i))) := by
  obtain ⟨t, h⟩ := h
  exact xGlob hg h (v := .int i) ⟨t, rfl⟩ (fun _ _ => .int i) hd
theorem xGStr {x z : Str} {pos : Pos} (hg : Gl X x) (h : ∃ t, X.mg x = some (.str z t)) (hz : z.length ≤ 1000000 := by decide) (hd : (x == ("__debug__" : Str)) = false := by decide) : PE X (.Name x pos) (TM Y (eK (.str z))) := by
  obtain ⟨t, h⟩ := h
  exact xGlob hg h (v := .str z) ⟨t, rfl⟩ (fun _ _ => .str hz) hd
end
def blkB (N : List Str) (sc scope : Scope) (own : List (Str × Nat)) : Bool := own.all (fun p => decide (N[p.2]? = some p.1)) && scope.names.all fun y => decide (scope.names.lookup y.1 = some y.2) && match y.2 with
  | .free => decide (sc.names.lookup y.1 = some .cell) || decide (sc.names.lookup y.1 = some .free)
  | .local => own.any (fun p => decide (p.1 = y.1)) || !N.any fun x => decide (x = y.1)
  | .cell => own.any (fun p => decide (p.1 = y.1)) || !N.any fun x => decide (x = y.1)
  | _ => true
theorem own_of {N : List Str} {own : List (Str × Nat)} {x : Str} (h : (own.any (fun p => decide (p.1 = x)) || !N.any fun y => decide (y = x)) = true) : x ∈ own.map (·.1) ∨ ¬ x ∈ N := by
  rw [Bool.or_eq_true] at h
  rcases h with h | h
  · obtain ⟨p, hp, e⟩ := List.any_eq_true.mp h
    exact .inl (List.mem_map.mpr ⟨p, hp, of_decide_eq_true e⟩)
  · refine .inr fun z => ?_
    have : (N.any fun y => decide (y = x)) = true := List.any_eq_true.mpr ⟨x, z, decide_eq_true rfl⟩
    rw [this] at h
    cases h
theorem blk_of {N : List Str} {sc scope : Scope} {own : List (Str × Nat)} (hk : scope.kind = .function) (h : blkB N sc scope own = true) : BlkOk N sc scope own := by
  unfold blkB at h
  rw [Bool.and_eq_true] at h
  refine ⟨hk, fun y hy => ?_, fun p hp => of_decide_eq_true (List.all_eq_true.mp h.1 p hp), fun y hy e => ?_, fun y hy e => ?_⟩
  · have q := List.all_eq_true.mp h.2 y hy
    rw [Bool.and_eq_true] at q
    exact of_decide_eq_true q.1
  · have q := List.all_eq_true.mp h.2 y hy
    rw [Bool.and_eq_true, e] at q
    have q2 := q.2
    simp only [Bool.or_eq_true] at q2
    exact q2.elim (fun z => .inl (of_decide_eq_true z)) fun z => .inr (of_decide_eq_true z)
  · have q := List.all_eq_true.mp h.2 y hy
    rw [Bool.and_eq_true] at q
    rcases e with e | e <;> rw [e] at q <;> exact own_of q.2
theorem bt_int : bootBuiltins "int" = some (.type "int") := by decide +kernel
theorem bt_str : bootBuiltins "str" = some (.type "str") := by decide +kernel
theorem bt_bool : bootBuiltins "bool" = some (.type "bool") := by decide +kernel
theorem bt_list : bootBuiltins "list" = some (.type "list") := by decide +kernel
theorem bt_tuple : bootBuiltins "tuple" = some (.type "tuple") := by decide +kernel
theorem bt_set : bootBuiltins "set" = some (.type "set") := by decide +kernel
theorem bt_len : bootBuiltins "len" = some (.builtin "len") := by decide +kernel
theorem bt_max : bootBuiltins "max" = some (.builtin "max") := by decide +kernel
theorem bt_min : bootBuiltins "min" = some (.builtin "min") := by decide +kernel
theorem bt_sum : bootBuiltins "sum" = some (.builtin "sum") := by decide +kernel
theorem bt_all : bootBuiltins "all" = some (.builtin "all") := by decide +kernel
theorem bt_any : bootBuiltins "any" = some (.builtin "any") := by decide +kernel
theorem bt_abs : bootBuiltins "abs" = some (.builtin "abs") := by decide +kernel
theorem bt_divmod : bootBuiltins "divmod" = some (.builtin "divmod") := by decide +kernel
theorem bt_sorted : bootBuiltins "sorted" = some (.builtin "sorted") := by decide +kernel
theorem bt_repr : bootBuiltins "repr" = some (.builtin "repr") := by decide +kernel
def fdOf (K : PySem.W.Frag) (f : Addr) : FuncData := match K.lookup f with
  | some ⟨_, _, .func fd, _⟩ => fd
  | _ => PySem.W.fnOf "" "" ⟨[], [], none, [], [], none, []⟩ [] ⟨.function, [], false, false, []⟩ .none .none .none .none none .none .none
theorem funD_at {K : PySem.W.Frag} {x qual : Str} {params : Arguments} {body : List Stmt} {scope : Scope} {dvs : List V} {kws : List (Str × V)} {f : Addr} {fd : FuncData} (F : FunD K x qual params body scope dvs kws f fd) : FunD K x qual params body scope dvs kws f (fdOf K f) := by
  obtain ⟨oc, od, dV, kV, doc, pm, an, cdv, ct, osl, e, lk, r⟩ := F.ex
  have : fdOf K f = fd := by
    unfold fdOf
    rw [lk, e]
  rw [this]
  exact F
theorem room80 {k : Nat} {A : Around} (h : Room k A) : A.units + 80 < cLine := by
  have := h.un
  omega
def relT (K : PySem.W.Frag) : Nat → T → Value → Bool
  | _, .non, .none => true
  | _, .bl b, .bool c => b == c
  | _, .int i, .int j _ => decide (i = j)
  | _, .str x, .str y _ => decide (x = y) && decide (x.length ≤ 1000000)
  | k + 1, .tup ts, .ref a => (match K.lookup a with
    | some ⟨.type c, _, .seq its _, _⟩ => decide (c = "tuple") && (decide (its.size ≤ 16777216) && (decide (its.toList.length = ts.length) && (List.zip ts its.toList).all fun q => relT K k q.1 q.2))
    | _ => false)
  | _, _, _ => false
theorem relTs_ok {Y : Wd} {f : T → Value → Bool} (hf : ∀ t u, f t u = true → ∃ v, RelV v u ∧ ∀ ρ H, Rp Y ρ H t v) : ∀ {ts : List T} {us : List Value}, us.length = ts.length → ((List.zip ts us).all fun q => f q.1 q.2) = true → ∃ vs, Vals vs us ∧ ∀ ρ H, Rps Y ρ H ts vs
  | [], [], _, _ => ⟨[], .nil, fun _ _ => .nil⟩
  | [], _ :: _, h, _ => by cases h
  | _ :: _, [], h, _ => by cases h
  | t :: ts, u :: us, h, e => by
    simp only [List.zip_cons_cons, List.all_cons, Bool.and_eq_true] at e
    obtain ⟨v, r1, r2⟩ := hf t u e.1
    obtain ⟨vs, q1, q2⟩ := relTs_ok hf (by simpa using h) e.2
    exact ⟨v :: vs, .cons r1 q1, fun ρ H => .cons (r2 ρ H) (q2 ρ H)⟩
theorem relT_ok {Y : Wd} : ∀ (k : Nat) (t : T) (u : Value), relT Y.K k t u = true → ∃ v, RelV v u ∧ ∀ ρ H, Rp Y ρ H t v := by
  intro k
  induction k with
  | zero =>
    intro t u h
    cases t <;> cases u <;> first | (cases h; done) | skip
    · exact ⟨.non, rfl, fun _ _ => .non⟩
    · have e := eq_of_beq h; subst e; exact ⟨.bl _, rfl, fun _ _ => .bl _⟩
    · have e := of_decide_eq_true h; subst e; exact ⟨.int _, ⟨_, rfl⟩, fun _ _ => .int _⟩
    · simp only [relT, Bool.and_eq_true] at h
      have e := of_decide_eq_true h.1; subst e
      exact ⟨.str _, ⟨_, rfl⟩, fun _ _ => .str (of_decide_eq_true h.2)⟩
  | succ k ih =>
    intro t u h
    cases t <;> cases u <;> first | (cases h; done) | skip
    · exact ⟨.non, rfl, fun _ _ => .non⟩
    · have e := eq_of_beq h; subst e; exact ⟨.bl _, rfl, fun _ _ => .bl _⟩
    · have e := of_decide_eq_true h; subst e; exact ⟨.int _, ⟨_, rfl⟩, fun _ _ => .int _⟩
    · simp only [relT, Bool.and_eq_true] at h
      have e := of_decide_eq_true h.1; subst e
      exact ⟨.str _, ⟨_, rfl⟩, fun _ _ => .str (of_decide_eq_true h.2)⟩
    · rename_i ts a
      simp only [relT] at h
      split at h
      · rename_i c od its n sl lk
        simp only [Bool.and_eq_true] at h
        obtain ⟨h1, h2, h3, h4⟩ := h
        have e := of_decide_eq_true h1
        subst e
        obtain ⟨vs, q1, q2⟩ := relTs_ok ih (of_decide_eq_true h3) h4
        have hz : its.size ≤ sizeLine := by rw [sizeLine_eq]; exact of_decide_eq_true h2
        have hl : vs.length = its.toList.length := q1.length
        refine ⟨.ref a, rfl, fun ρ H => .tup ⟨by rw [hl, Array.length_toList]; exact hz, .inr ⟨_, its, n, lk, rfl, rfl, hz, q1⟩⟩ (q2 ρ H)⟩
      · cases h
def kdB (K : PySem.W.Frag) (x : Str) (kvs : List (Str × T)) : Bool := match K.lookup (He.ga K x) with
  | some ⟨_, _, .dict es _, _⟩ => decide (es.toList.map (fun e => match e.key with | .str x _ => some x | _ => none) = kvs.map fun q => some q.1) && (!es.toList.any (·.refKey) && kvs.all fun q => match PySem.W.nsIn K (He.ga K x) q.1 with
      | some (some u) => relT K 3 q.2 u
      | _ => false)
  | _ => false
theorem lookup_mem' {kvs : List (Str × T)} {k : Str} {t : T} (h : kvs.lookup k = some t) : (k, t) ∈ kvs := by
  induction kvs with
  | nil => cases h
  | cons q r ih =>
    obtain ⟨a, b⟩ := q
    simp only [List.lookup] at h
    split at h
    · rename_i e
      cases h
      rw [eq_of_beq e]
      exact List.mem_cons_self
    · exact List.mem_cons_of_mem _ (ih h)
theorem kd_of {Y : Wd} {w : World} {x : Str} {kvs : List (Str × T)} (hd : ∃ es n, KDict Y.K w (He.ga Y.K x) es n) (hb : kdB Y.K x kvs = true) : KD Y w (He.ga Y.K x) kvs := by
  obtain ⟨es, n, D⟩ := hd
  unfold kdB at hb
  rw [D.at_] at hb
  simp only [Bool.and_eq_true] at hb
  obtain ⟨h1, h2, h3⟩ := hb
  have hk := of_decide_eq_true h1
  refine ⟨⟨es, n, D, hk⟩, fun k t e => ?_, fun k e => ?_⟩
  · have h4 := List.all_eq_true.mp h3 _ (lookup_mem' e)
    simp only at h4
    split at h4
    · rename_i u eu
      obtain ⟨v, r1, r2⟩ := relT_ok 3 t u h4
      exact ⟨u, v, eu, r1, r2⟩
    · cases h4
  · unfold PySem.W.nsIn
    rw [D.at_]
    simp only
    have hn : es.toList.find? (·.key.isStr k) = none := by
      rw [List.find?_eq_none]
      intro en hen hz
      have hm : (match en.key with | .str x _ => some x | _ => none) ∈ kvs.map fun q => some q.1 := by
        rw [← hk]
        exact List.mem_map.mpr ⟨en, hen, rfl⟩
      cases q : en.key with
      | str y tk =>
        rw [q] at hm hz
        have hy : y = k := by simpa [Value.isStr] using hz
        subst hy
        simp only [List.mem_map, Option.some.injEq] at hm
        obtain ⟨p, hp, ep⟩ := hm
        rw [List.lookup_eq_none_iff] at e
        have := e p hp
        rw [ep] at this
        simp at this
      | _ => rw [q] at hz; simp [Value.isStr] at hz
    rw [hn]
    have h2' : (es.toList.any (·.refKey)) = false := by
      cases q : es.toList.any (·.refKey) with
      | false => rfl
      | true => rw [q] at h2; cases h2
    simp only [h2']
    rfl
end TL
namespace TL
open PySem PySem.Spec L2
abbrev ClT := List (Nat × Str × List Str)
def wdOf (w : World) (cl : ClT) (K : PySem.W.Frag) (tl : List (Str × He.Defn) := []) : Wd := ⟨K, fun c => (cl.lookup c).map fun q => He.ga K q.1, fun c => match cl.lookup c with | some q => q.2 | none => [], w, fun q => (tl.lookup q).map fun p => (He.cT K p).2⟩
theorem lookup_mem2 {α β : Type} [BEq α] [LawfulBEq α] {l : List (α × β)} {k : α} {t : β} (h : l.lookup k = some t) : (k, t) ∈ l := by
  induction l with
  | nil => cases h
  | cons q r ih =>
    obtain ⟨a, b⟩ := q
    simp only [List.lookup] at h
    split at h
    · rename_i e
      cases h
      rw [eq_of_beq e]
      exact List.mem_cons_self
    · exact List.mem_cons_of_mem _ (ih h)
def isiChk (cl : ClT) (K : PySem.W.Frag) (w : Value) (y : TyC) : Bool := (tyNames.all fun n => decide (PySem.W.kitOne K (.type n) w = some (isiB (.b n) y))) && cl.all fun q => decide (PySem.W.kitOne K (.ref (He.ga K q.2.1)) w = some (isiB (.o q.1) y))
theorem isi_of {w' : World} {cl : ClT} {K : PySem.W.Frag} {tl : List (Str × He.Defn)} {w : Value} {y : TyC} (h : isiChk cl K w y = true) : ∀ x u, x.fit = true → x.v (wdOf w' cl K tl) u → PySem.W.kitOne K u w = some (isiB x y) := by
  unfold isiChk at h
  rw [Bool.and_eq_true] at h
  intro x u hf hv
  cases x with
  | b n =>
    cases hv
    have hm : n ∈ tyNames := by simpa [TyC.fit] using hf
    exact of_decide_eq_true (List.all_eq_true.mp h.1 n hm)
  | o c =>
    obtain ⟨C, hC, rfl⟩ := hv
    have hC : (cl.lookup c).map (fun q => He.ga K q.1) = some C := hC
    rw [Option.map_eq_some_iff] at hC
    obtain ⟨q, hq, rfl⟩ := hC
    exact of_decide_eq_true (List.all_eq_true.mp h.2 _ (lookup_mem2 hq))
def cfB (K : PySem.W.Frag) (C : Addr) : Bool := He.eqO (PySem.W.findIn K (.ref C) "__class__") (some (some (.builtin "object.__class__"))) && (He.eqO (PySem.W.specialIn K (.builtin "object.__class__") "__get__") (some (some (.builtin "getset_descriptor.__get__"))) &&
  (decide (PySem.W.takesIn K (.builtin "object.__class__") = some true) && decide (PySem.W.mroIn K C (.type "object") = some true)))
theorem cf_of {K : PySem.W.Frag} {x : Str} (c : (He.Fa.cls x).ok K = true) (h : cfB K (He.ga K x) = true) : CF K (He.ga K x) := by
  unfold cfB at h
  simp only [Bool.and_eq_true] at h
  exact ⟨He.cls_ok c, He.eqO_ok h.1, He.eqO_ok h.2.1, of_decide_eq_true h.2.2.1, of_decide_eq_true h.2.2.2⟩
theorem wd_ok {w' : World} {cl : ClT} {K : PySem.W.Frag} {tl : List (Str × He.Defn)} (h : ∀ q ∈ cl, CF K (He.ga K q.2.1)) : WdOk (wdOf w' cl K tl) := fun c C e => by
  have e : (cl.lookup c).map (fun q => He.ga K q.1) = some C := e
  rw [Option.map_eq_some_iff] at e
  obtain ⟨q, hq, rfl⟩ := e
  exact h _ (lookup_mem2 hq)
theorem start_hr {Y : Wd} {H : Hp} (tb : ∀ q a, Y.tb q = some a → TbAt ⟨[], []⟩ H a q) : HR Y ⟨[], []⟩ H [] := by
  constructor
  · rfl
  · exact List.Pairwise.nil
  · intro a ha; cases ha
  · intro a ha; cases ha
  · intro n o a h1 h2; simp at h1
  · exact fun q a e => ⟨⟨List.not_mem_nil, List.not_mem_nil⟩, tb q a e⟩
theorem ints_rps {Y : Wd} {ρ : Rh} {H : Hp} : ∀ ns : List Int, Rps Y ρ H (ns.map T.int) (ns.map V.int)
  | [] => .nil
  | x :: xs => .cons (.int x) (ints_rps xs)
theorem start_rp {Y : Wd} {H : Hp} {a : Addr} {ns : List Int} (hS : SqL Y.K H a (ns.map V.int)) (hz : ns.length ≤ sizeLine) : Rp Y ⟨[], []⟩ H (.arg (ns.map T.int)) (.ref a) := by
  refine .arg (vs := ns.map V.int) ⟨by rw [List.length_map]; exact hz, ?_⟩ (ints_rps ns)
  rcases hS with h | ⟨o, its, n, h1, h2, h3, h4, h5, h6⟩
  · exact .inl ⟨⟨by simp, by simp⟩, h⟩
  · exact .inr ⟨o, its, n, h1, h2, h3, h4, h5, h6⟩
theorem law_sp {Y : Wd} {H : Hp} {a : Addr} {ns : List Int} {m : List T → VH → Res T} {h' : VH} (hS : SqL Y.K H a (ns.map V.int)) (hz : ns.length ≤ sizeLine) (e : m [.arg (ns.map T.int)] [] = .ok (.bl true) h') (nt : ∀ q, Y.tb q = none := by intro _; rfl) :
    spM Y m [.ref a] H (fun v _ => v = .bl true) fun _ _ _ => False := ⟨⟨[], []⟩, _, [], _, h', .cons (start_rp hS hz) .nil, start_hr (fun q a z => by rw [nt q] at z; cases z), e, ⟨fun ρ' H' v ev hr r => by cases r; rfl⟩⟩
end TL
namespace TL
open PySem L2
theorem lcL_pure {rd : VH → Option (List T)} {g : MG} {c : MB} {e : ME} {τ : TS_} {h : VH} {ts : List T} (hrd : rd h = some ts) (p : T → Bool) (f : T → T) (hb : ∀ t ∈ ts, ∃ τ1, g t τ h = .ok τ1 h ∧ c τ1 h = .ok (p t) h ∧ (p t = true → e τ1 h = .ok (f t) h)) :
    ∀ (k i : Nat) (acc : List T), i + k = ts.length → lcL rd g c e τ ts.length k i acc h = .ok (acc ++ ((ts.drop i).filter p).map f) h := by
  intro k
  induction k with
  | zero =>
    intro i acc hi
    have : ts.drop i = [] := List.drop_eq_nil_of_le (by omega)
    rw [this]
    simp [lcL, hrd]
  | succ k ih =>
    intro i acc hi
    have hlt : i < ts.length := by omega
    have e1 : ts[i]? = some ts[i] := List.getElem?_eq_getElem hlt
    obtain ⟨τ1, h1, h2, h3⟩ := hb ts[i] (List.getElem_mem hlt)
    have hd : ts.drop i = ts[i] :: ts.drop (i + 1) := List.drop_eq_getElem_cons hlt
    cases hp : p ts[i] with
    | true =>
      have h3 := h3 hp
      rw [hp] at h2
      have z := ih (i + 1) (acc ++ [f ts[i]]) (by omega)
      simp only [lcL, hrd, e1, h1, h2, h3, if_true]
      rw [z, hd, List.filter_cons, if_pos hp, List.map_cons, List.append_assoc, List.singleton_append]
    | false =>
      rw [hp] at h2
      have z := ih (i + 1) acc (by omega)
      simp only [lcL, hrd, e1, h1, h2, if_true]
      rw [z, hd, List.filter_cons, if_neg (by rw [hp]; exact Bool.false_ne_true)]
theorem mLc_pure {mi : MI} {ws : List Nat} {g : MG} {c : MB} {e : ME} {τ : TS_} {h : VH} {rd : VH → Option (List T)} {ts : List T} (hm : mi τ h = .ok rd h) (hrd : rd h = some ts) (hl : ts.length ≤ 16777216) (p : T → Bool) (f : T → T)
    (hb : ∀ t ∈ ts, ∃ τ1, g t (wipeT τ ws) h = .ok τ1 h ∧ c τ1 h = .ok (p t) h ∧ (p t = true → e τ1 h = .ok (f t) h)) : mLc mi ws g c e τ h = .ok ((ts.filter p).map f) h := by
  have z := lcL_pure (τ := wipeT τ ws) hrd p f hb ts.length 0 [] (by omega)
  simp [mLc, hm, hrd, hl, z]
theorem mLc_map {mi : MI} {ws : List Nat} {g : MG} {e : ME} {τ : TS_} {h : VH} {rd : VH → Option (List T)} {ts : List T} (hm : mi τ h = .ok rd h) (hrd : rd h = some ts) (hl : ts.length ≤ 16777216) (f : T → T)
    (hb : ∀ t ∈ ts, ∃ τ1, g t (wipeT τ ws) h = .ok τ1 h ∧ e τ1 h = .ok (f t) h) : mLc mi ws g bYes e τ h = .ok (ts.map f) h := by
  have z := mLc_pure (c := bYes) hm hrd hl (fun _ => true) f fun t ht => let ⟨τ1, a, b⟩ := hb t ht; ⟨τ1, a, rfl, fun _ => b⟩
  rw [z, List.filter_eq_self.mpr fun _ _ => rfl]
theorem forL_inv {rd : VH → Option (List T)} {g : MG} {body : MS} {ts : List T} (I : Nat → TS_ → VH → Prop) (hrd : ∀ i τ h, I i τ h → rd h = some ts)
    (step : ∀ i (hi : i < ts.length) τ h, I i τ h → ∃ τ1 h1 τ2 h2, g ts[i] τ h = .ok τ1 h1 ∧ (body τ1 h1 = .nx τ2 h2 ∨ body τ1 h1 = .ct τ2 h2) ∧ I (i + 1) τ2 h2) :
    ∀ (k i : Nat) τ h, i + k = ts.length → I i τ h → ∃ τ' h', forL rd g body ts.length k i τ h = .nx τ' h' ∧ I ts.length τ' h' := by
  intro k
  induction k with
  | zero =>
    intro i τ h hi hI
    have e : i = ts.length := by omega
    subst e
    exact ⟨τ, h, by simp [forL, hrd _ _ _ hI], hI⟩
  | succ k ih =>
    intro i τ h hi hI
    have hlt : i < ts.length := by omega
    have e1 : ts[i]? = some ts[i] := List.getElem?_eq_getElem hlt
    obtain ⟨τ1, h1, τ2, h2, a, b, c⟩ := step i hlt τ h hI
    obtain ⟨τ', h', q1, q2⟩ := ih (i + 1) τ2 h2 (by omega) c
    refine ⟨τ', h', ?_, q2⟩
    rcases b with b | b <;> simp [forL, hrd _ _ _ hI, e1, a, b, q1]
theorem sFor_inv {mi : MI} {g : MG} {body : MS} {τ : TS_} {h h1 : VH} {rd : VH → Option (List T)} {ts : List T} (I : Nat → TS_ → VH → Prop) (hm : mi τ h = .ok rd h1) (h0 : I 0 τ h1) (hrd : ∀ i τ h, I i τ h → rd h = some ts)
    (step : ∀ i (hi : i < ts.length) τ h, I i τ h → ∃ τ1 h1 τ2 h2, g ts[i] τ h = .ok τ1 h1 ∧ (body τ1 h1 = .nx τ2 h2 ∨ body τ1 h1 = .ct τ2 h2) ∧ I (i + 1) τ2 h2) :
    ∃ τ' h', sFor mi g body τ h = .nx τ' h' ∧ I ts.length τ' h' := by
  obtain ⟨τ', h', q1, q2⟩ := forL_inv I hrd step ts.length 0 τ h1 (by omega) h0
  exact ⟨τ', h', by simp [sFor, hm, hrd _ _ _ h0, q1], q2⟩
theorem range_at {lo : Int} {n i : Nat} (hi : i < (rangeT lo n).length) : i < n ∧ (rangeT lo n)[i] = .int (lo + i) := by
  have hl : i < n := by simpa [rangeT] using hi
  exact ⟨hl, by simp [rangeT]⟩
theorem range_len (lo : Int) (n : Nat) : (rangeT lo n).length = n := by simp [rangeT]
theorem cut1 (xs : List T) : cutT xs (some 1) none = xs.drop 1 := by
  unfold cutT HT.sIx
  simp only [Option.getD]
  cases xs with
  | nil => simp
  | cons a r =>
    have e : (min (1 : Int) ((a :: r).length : Nat)).toNat = 1 := by simp only [List.length_cons]; omega
    simp
theorem seq_nx {f g : MS} {τ τ1 : TS_} {h h1 : VH} (e : f τ h = .nx τ1 h1) : sSeq f g τ h = g τ1 h1 := by unfold sSeq; rw [e]
theorem seq_rt {f g : MS} {τ : TS_} {h h1 : VH} {t : T} (e : f τ h = .rt t h1) : sSeq f g τ h = .rt t h1 := by unfold sSeq; rw [e]
theorem defM_rt {n p : Nat} {f : MS} {ts : List T} {h h' : VH} {t : T} (hl : ts.length = p) (e : f (startT n ts) h = .rt t h') : defM n p f ts h = .ok t h' := by unfold defM; rw [if_pos hl, e]
theorem defM_nx {n p : Nat} {f : MS} {ts : List T} {h h' : VH} {τ : TS_} (hl : ts.length = p) (e : f (startT n ts) h = .nx τ h') : defM n p f ts h = .ok .non h' := by unfold defM; rw [if_pos hl, e]
theorem set_ok {i : Nat} {f : ME} {τ : TS_} {h h1 : VH} {t : T} (e : f τ h = .ok t h1) : sSet i f τ h = .nx (τ.set i (some t)) h1 := by unfold sSet; rw [e]
theorem ret_ok {f : ME} {τ : TS_} {h h1 : VH} {t : T} (e : f τ h = .ok t h1) : sRet f τ h = .rt t h1 := by unfold sRet; rw [e]
theorem if_t {c : MB} {f g : MS} {τ : TS_} {h h1 : VH} (e : c τ h = .ok true h1) : sIf c f g τ h = f τ h1 := by unfold sIf; rw [e]
theorem if_f {c : MB} {f g : MS} {τ : TS_} {h h1 : VH} (e : c τ h = .ok false h1) : sIf c f g τ h = g τ h1 := by unfold sIf; rw [e]
theorem expr_ok {f : ME} {τ : TS_} {h h1 : VH} {t : T} (e : f τ h = .ok t h1) : sExpr f τ h = .nx τ h1 := by unfold sExpr; rw [e]
theorem call_ok {b : List T → VH → Res T} {g : MA} {τ : TS_} {h h1 : VH} {ts : List T} (e : g τ h = .ok ts h1) : eCall b g τ h = b ts h1 := by unfold eCall; rw [e]
theorem cons_ok {f : ME} {g : MA} {τ : TS_} {h h1 h2 : VH} {t : T} {ts : List T} (e : f τ h = .ok t h1) (e2 : g τ h1 = .ok ts h2) : aCons f g τ h = .ok (t :: ts) h2 := by unfold aCons; simp only [e, e2]
theorem op_ok {b : T → T → VH → Res T} {f g : ME} {τ : TS_} {h h1 h2 : VH} {t u : T} (e : f τ h = .ok t h1) (e2 : g τ h1 = .ok u h2) : eOp b f g τ h = b t u h2 := by unfold eOp; simp only [e, e2]
theorem test_ok {f : ME} {τ : TS_} {h h1 : VH} {b : Bool} (e : f τ h = .ok (.bl b) h1) : bTest f τ h = .ok b h1 := by unfold bTest; simp only [e]
theorem eL_ok {f : MA} {τ : TS_} {h h1 : VH} {ts : List T} (e : f τ h = .ok ts h1) : eL f τ h = .ok (.lst ts) h1 := by unfold eL; simp only [e]
theorem dat_int {h : VH} {k : Nat} {i : Int} : T.dat h k (.int i) = some (.int i) := by cases k <;> rfl
theorem dat_non {h : VH} {k : Nat} : T.dat h k .non = some .none := by cases k <;> rfl
theorem dat_str {h : VH} {k : Nat} {x : Str} : T.dat h k (.str x) = some (.str x) := by cases k <;> rfl
theorem dat_lst {h : VH} {k : Nat} {ts : List T} : T.dat h (k + 1) (.lst ts) = (ts.mapM (T.dat h k)).map .list := rfl
theorem dat_tup {h : VH} {k : Nat} {ts : List T} : T.dat h (k + 1) (.tup ts) = (ts.mapM (T.dat h k)).map .tuple := rfl
theorem mapM_some {α β : Type} {f : α → Option β} {g : α → β} : ∀ {l : List α}, (∀ a ∈ l, f a = some (g a)) → l.mapM f = some (l.map g)
  | [], _ => rfl
  | a :: l, h => by
    rw [List.mapM_cons, h a List.mem_cons_self, mapM_some fun b hb => h b (List.mem_cons_of_mem _ hb)]
    rfl
theorem strsOf_map : ∀ ns : List Str, strsOf (ns.map T.str) = some ns
  | [] => rfl
  | n :: ns => by simp [strsOf, strsOf_map ns]
theorem ix_nn {α : Type} {xs : List α} {i : Int} (h0 : 0 ≤ i) (h1 : i < xs.length) : atI xs i = xs[i.toNat]? := by
  unfold atI ixN
  rw [if_pos h0, if_pos h1]
  rfl
end TL
namespace TL
open PySem PySem.Spec L2 PyProof.Rows
abbrev Quiet (A : Around) : Prop := A.guards = some []
structure FnQ (P : Program) (w : World) (K : PySem.W.Frag) (mg : Str → Option Value) (base : Heap) (Y : Wd) (k : Nat) (f : Addr) (fd : FuncData) (ps : List Str) (m : List T → VH → Res T) : Prop where
  many : ∀ ts h t h', m ts h = .ok t h' → ts.length = ps.length
  goes : ∀ (A : Around), Quiet A → Room k A → ∀ (outer : List Env) (s : Shared) (H : Hp), Env0 P w K mg base A outer s H → ∀ (args : Args) (us : List Value) (vs : List V), BindsTo s fd args (ps.zip us) → Vals vs us →
    ∀ Q : VK, spM Y m vs H Q E0 → codeAny (model P w) A (.call (.ref f) args) (CR CX0 outer P w H s Q E0) s
section
variable {P : Program} {w : World} {K : PySem.W.Frag} {mg : Str → Option Value} {base : Heap} {Y : Wd} {k : Nat} {f : Addr} {fd : FuncData} {ps N : List Str} {m : List T → VH → Res T}
theorem spM_many {vs : List V} {H : Hp} {Q : VK} {E : XK} {n : Nat} (many : ∀ ts h t h', m ts h = .ok t h' → ts.length = n) (q : spM Y m vs H Q E) : vs.length = n :=
  let ⟨_, ts, h, t, h', r, _, e, _⟩ := q
  r.length.trans (many ts h t h' e)
theorem FnQ.of (F : FnOk P w K mg base CX0 k f fd ps (spM Y m)) (many : ∀ ts h t h', m ts h = .ok t h' → ts.length = ps.length) : FnQ P w K mg base Y k f fd ps m :=
  ⟨many, fun A _ hr outer s H e0 args us vs b r Q q => F.run A outer s H args us vs Q E0 hr e0 b r q⟩
theorem FnQ.cut (F : FnQ P w K mg base Y k f fd ps m) : FnQ P w K mg base Y k f fd ps (cutM m) where
  many ts h t h' e := by
    unfold cutM at e
    cases q : m ts h with
    | bad => rw [q] at e; cases e
    | ok u h1 => exact F.many _ _ _ _ q
  goes A hq hr outer s H e0 args us vs b r Q q := F.goes A hq hr outer s H e0 args us vs b r Q (spM_cut q)
theorem defM_many {n p : Nat} {g : MS} {ts : List T} {h h' : VH} {t : T} (e : defM n p g ts h = .ok t h') : ts.length = p := by
  unfold defM at e
  split at e
  · assumption
  · cases e
theorem ends_ok {N : List Str} {qual : Str} {scope : Scope} {cd : Value} {A : Around} {outer : List Env} {s s' : Shared} {H : Hp} {Q : VK} {r : Flow}
    (z : SP (cxOf CX0 P w K mg base N qual scope f cd A outer s H E0) [] { nx := fun _ H' => Q .non H', rt := Q } r s') : ∃ u, (match r with | .next => some Value.none | .ret u => some u | _ => none) = some u ∧ CE outer P w H s Q u s' := by
  cases r with
  | next => exact let ⟨_, H', J, q⟩ := z; ⟨_, rfl, .non, H', J.os, J.bare, J.base, J.hok, rfl, q⟩
  | ret u => exact let ⟨v, _, H', J, r, q⟩ := z; ⟨_, rfl, v, H', J.os, J.bare, J.base, J.hok, r, q⟩
  | brk => exact let ⟨_, _, _, q⟩ := z; q.elim
  | cont => exact let ⟨_, _, _, q⟩ := z; q.elim
theorem tms_start {N : List Str} {p : Nat} {g : MS} {vs : List V} {H : Hp} {Q : VK} (q : spM Y (defM N.length p g) vs H Q E0) : TMS Y g { nx := fun _ H' => Q .non H', rt := Q } (L2.start N vs) H := by
  obtain ⟨ρ, ts, h, t, h', r, hr, e, to⟩ := q
  have hl := defM_many e
  refine ⟨ρ, startT N.length ts, h, ⟨sl_start r, hr⟩, ?_⟩
  unfold defM at e
  rw [if_pos hl] at e
  cases z : g (startT N.length ts) h with
  | nx τ' h1 => rw [z] at e; cases e; exact fun ρ' H' σ' ev hr' _ => to.to ρ' H' .non ev hr' .non
  | rt u h1 => rw [z] at e; cases e; exact fun ρ' H' v ev hr' r' => to.to ρ' H' v ev hr' r'
  | bk τ' h1 => rw [z] at e; cases e
  | ct τ' h1 => rw [z] at e; cases e
  | bad => rw [z] at e; cases e
theorem fnQ {x qual : Str} {params : Arguments} {body : List Stmt} {scope : Scope} {dvs : List V} {kws : List (Str × V)} {g : MS} (F : FunD K x qual params body scope dvs kws f fd) (S : FnScope N ps scope) (n p : Nat) (hn : N.length = n := by rfl) (hp : ps.length = p := by rfl)
    (hb : ∀ (cdv : Value) (A : Around) (outer : List Env) (s : Shared) (H : Hp) (E : XK), Quiet (A.deeper (envOfC qual scope s.heap.objs.size f cdv)) → Room k (A.deeper (envOfC qual scope s.heap.objs.size f cdv)) → PSs (cxOf CX0 P w K mg base N qual scope f cdv A outer s H E).nox body (TMS Y g)) :
    FnQ P w K mg base Y (k + 1) f fd ps (defM n p g) := by
  subst hn hp
  refine ⟨fun ts h t h' e => defM_many e, ?_⟩
  intro A quiet hr outer s H e0 args us vs bound r Q q
  have hl : vs.length = ps.length := spM_many (fun ts h t h' e => defM_many e) q
  obtain ⟨oc, od, dV, kV, doc, pm, an, cdv, ct, osl, rfl, lk, hcd, -⟩ := F.ex
  have older : ∀ b o, base.get? b = some o → s.heap.get? b = some o := fun b o e => (e0.bs b o e).1
  have KX := e0.mod.kin.keeps older
  refine codeAny_call_function hr.depth (KX f _ lk) rfl S.co S.gen rfl (PySem.W.codeRec_of KX hcd) (bound _ _ _ _ (wpAny_newFunctionEnv_cells S.kind ?kinds ?body))
  case kinds =>
    rintro ⟨nm, u⟩ hy
    have hy := (List.of_mem_zip hy).1
    exact (S.par nm hy).imp id fun c => ⟨c, PySem.W.cellsFrom_some _ _ _ (.inl c)⟩
  case body =>
    rintro _ rfl s1 inside
    have run := ((hb cdv A outer s H E0 quiet (hr.deeper _)).nox).run [] s1 (L2.start N vs) H _ (inv_start S hr.hd e0 hl r inside) (tms_start q)
    refine ⟨(e0.mod.nolimit.keeps older).keeps inside.toInCall.keep, codeAny_func (wpAny_mono run ?_ fun _ _ z => z)⟩
    intro fl s' z
    obtain ⟨u, eu, ce⟩ := ends_ok z
    cases fl <;> cases eu <;> exact ce
end
section
variable {X : Cx} {Y : Wd}
theorem xCallQ {k : Nat} {f : Addr} {fd : FuncData} {ps : List Str} {m : List T → VH → Res T} {x : Str} {p pos : Pos} {e : Expr} {es : List Expr} {g : MA} (F : FnQ X.prog X.w X.K X.mg X.base Y k f fd ps m) (quiet : Quiet X.A) (hr : Room k X.A) (hg : Gl X x) (hm : X.mg x = some (.ref f)) (kp : PySem.W.keepIn X.K (.ref f) = true)
    (hb : Binds X.K fd ps []) (ha : PA X (e :: es) (TMA Y g)) (hdb : (x == ("__debug__" : Str)) = false := by decide) (he : starEach (e :: es) X.env = (false, eval e X.env) :: starEach es X.env := by rfl) (hpl : (backTo pos (starEach es X.env)).any (·.1) = false := by rfl) :
    PE X (.Call (.Name x p) (e :: es) [] pos) (TM Y (eCall m g)) := by
  constructor
  intro pins s σ H Q I q
  have args := ha.run pos pins s σ H _ I (tm_call (ct_sp (m := m) E0) q)
  refine wpAny_Call_Name_kw (ld_glob I hg hm (PySem.W.callWith_K (h₀ := X.base) I.mod.kin kp (thn args ?_) he hpl) hdb)
  rintro us s1 ⟨vs, H1, J, r, sp⟩
  have eu : us.length = ps.length := r.length.symm.trans (spM_many F.many sp)
  have bd := hb s1 us J.kIn (by rw [List.append_nil]; exact eu)
  rw [List.append_nil] at bd
  refine ⟨J.kIn, wpAny_call (codeAny_mono (F.goes X.A quiet hr X.stack s1 H1 J.env0 _ us vs bd r Q sp) ?_)⟩
  intro res s2 z
  match res, z with
  | .ok (.ret u), z => exact J.after z
  | .error v, z => exact z.elim
end
section
variable {P : Program} {w : World} {K : PySem.W.Frag} {mg mb : Str → Option Value} {Y : Wd} {k : Nat} {fa a : Addr} {fd : FuncData} {x : Str} {m : List T → VH → Res T} {s : Shared} {vs : List Value} {ns : List Int}
theorem lawQ (inK : K.In s.heap) (glo : s.heap.Ns mainGlobals mg) (blt : s.heap.Ns builtinsNs mb) (std : ∀ x : Str, x ≠ "__name__" → mb x = bootBuiltins x) (noLim : s.heap.NoLimit) (noGen : s.gens = #[])
    (at_ : s.heap.get? a = some { cls := .type "list", data := .seq vs.toArray }) (nums : IntsAre vs ns) (few : ns.length ≤ sizeLine) (hr : Room k callerA) (hY : Y.K = K) (nt : ∀ q, Y.tb q = none)
    (F : ∀ base : Heap, K.In base → base.Ns mainGlobals mg → FnQ P w K mg base Y k fa fd [x] m) (bind : ∀ (s : Shared) (u : Value), BindsTo s fd ⟨[u], []⟩ [(x, u)]) (law : ∃ h', m [.arg (ns.map T.int)] [] = .ok (.bl true) h') :
    codeAny (model P w) callerA (.call (.ref fa) ⟨[.ref a], []⟩) (fun r s' => r = .ok (.ret (.bool true)) ∧ OldK s.heap s'.heap ∧ s'.os = s.os ∧ AllBare s'.gens) s := by
  obtain ⟨h', law⟩ := law
  obtain ⟨o, ho⟩ : ∃ o : Obj, o = { cls := .type "list", data := .seq vs.toArray } := ⟨_, rfl⟩
  have at_ := ho ▸ at_
  obtain ⟨H, hH⟩ : ∃ H : Hp, ∀ b, H b = if b = a ∧ K.lookup a = none then some (.frz o (.lst (ns.map V.int))) else none := ⟨_, fun b => rfl⟩
  have what : ∀ b u, H b = some u → b = a ∧ K.lookup a = none ∧ u = .frz o (.lst (ns.map V.int)) := fun b u e => by
    rw [hH] at e
    split at e
    · rename_i c; exact ⟨c.1, c.2, (Option.some.inj e).symm⟩
    · cases e
  have rel := vals_ints nums
  have size : (ns.map V.int).length ≤ sizeLine := by rw [List.length_map]; exact few
  have hok : HOk P w H s.heap := fun b u e => by
    obtain ⟨rfl, -, rfl⟩ := what b u e
    exact ⟨at_, size, vs, _, rel, ho ▸ at_⟩
  have script : SqL Y.K H a (ns.map V.int) := by
    rw [hY]
    cases lk : K.lookup a with
    | none => exact .inl (.inr ⟨o, (hH a).trans (if_pos ⟨rfl, lk⟩)⟩)
    | some q =>
      obtain rfl : o = q := Option.some.inj (at_.symm.trans (inK a q lk))
      exact .inr ⟨o, vs.toArray, _, lk, by rw [ho], by rw [ho], by rw [ho], by rw [List.size_toArray, ← rel.length]; exact size, rel⟩
  have names : ∀ {L : Addr} {f : Str → Option Value}, s.heap.Ns L f → (hidT s.heap H).Ns L f := fun {L f} ⟨q, es, ep, e, d, r⟩ => by
    refine ⟨q, es, ep, hidT_get e ?_, d, r⟩
    cases z : H L with
    | none => rfl
    | some u =>
      obtain ⟨rfl, -⟩ := what L u z
      rw [at_] at e
      obtain rfl := Option.some.inj e
      rw [ho] at d
      cases d
  have inB : K.In (hidT s.heap H) := fun b q e => by
    refine hidT_get (inK b q e) ?_
    cases z : H b with
    | none => rfl
    | some u =>
      obtain ⟨rfl, lk, -⟩ := what b u z
      rw [lk] at e
      cases e
  have env : Env0 P w K mg (hidT s.heap H) callerA [] s H := by
    constructor
    · rfl
    · exact ⟨inB, names glo, ⟨mb, names blt, std⟩, let ⟨mc, l1, l2⟩ := noLim; ⟨mc, names l1, l2⟩⟩
    · exact fun b q e => of_hidT e
    · exact Nat.le_of_eq (hidT_size s.heap H)
    · trivial
    · intro b hb; cases hb
    · exact hok
    · exact .of_eq noGen
  have run := (F _ inB (names glo)).goes callerA rfl hr [] s H env ⟨[.ref a], []⟩ [.ref a] [.ref a] (bind s (.ref a)) (.cons rfl .nil) _ (law_sp script few law nt)
  refine codeAny_mono run ?_
  intro r s' z
  match r, z with
  | .ok (.ret u), ⟨v, H', os, bare, un, hok', rv, q⟩ =>
    obtain rfl : v = .bl true := q
    obtain rfl : u = .bool true := rv
    refine ⟨rfl, .of_keep fun b ob e => ?_, os, bare⟩
    cases hb : H b with
    | none => exact un.keep b ob e hb List.not_mem_nil List.not_mem_nil
    | some u =>
      obtain ⟨rfl, -, rfl⟩ := what b u hb
      rw [at_] at e
      obtain rfl := Option.some.inj e
      exact (hok' b _ (un.frzs _ _ _ hb)).1
end
theorem walkQ {l : PySem.W.OpenLaw} {n k : Nat} {q : Program} {loose : List Str} {XP : (Str → Option Value) → Heap → Prop} {YP : World → Heap → Prop} {d : DefRec} {x : Str} (most : l.most = some n) (small : n ≤ sizeLine) (plain : d.params.defaults = []) (hr : Room k callerA)
    (F : ∀ (w : World) (mg : Str → Option Value) (fa : Addr) (h : Heap), YP w h → h.Ns mainGlobals mg → mg d.name = some (.ref fa) →
      ∃ (K : PySem.W.Frag) (fd : FuncData) (Y : Wd) (m : List T → VH → Res T), K.In h ∧ (Y.K = K ∧ ∀ q, Y.tb q = none) ∧ (∀ (s : Shared) (u : Value), BindsTo s fd ⟨[u], []⟩ [(x, u)]) ∧ (∀ ns : List Int, ns.length ≤ n → ∃ h', m [.arg (ns.map T.int)] [] = .ok (.bl true) h') ∧
        ∀ base : Heap, K.In base → base.Ns mainGlobals mg → FnQ l.prog w K mg base Y k fa fd [x] m) : PySem.W.WalkO q loose XP YP l.row.toRowW d [] (fun f vs => PySem.call f vs) := by
  refine Att.attach_call most plain ?_
  intro w s₀ s₁ mg mb fa o pm cd doc a vs ns G Y' ho hd hcd named script nums len noGen
  obtain ⟨K, fd, Y, m, inK, ⟨hY, nt⟩, bind, law, hF⟩ := F w mg fa _ Y' G.T.g named
  exact lawQ inK G.T.g G.T.b G.T.builtins G.T.nolimit noGen script nums (Nat.le_trans len small) hr hY nt hF bind (law ns len)
section
variable {X : Cx} {Y : Wd}
def rRepr (K : PySem.W.Frag) : List V → Hp → VK → Prop := fun vs H Q => ∃ x d, vs = [x] ∧ Dp K H x d ∧ d.showable = true ∧ d.hasDict = false ∧ d.depth ≤ 12 ∧ d.shown.length ≤ sizeLine ∧ Q (.str d.shown) H
theorem cr_repr (quiet : Quiet X.A) (room : X.A.units + 80 < cLine) : CallR X (.builtin "repr") (rRepr X.K) := by
  rintro pins s σ H _ us Q I r ⟨x, d, rfl, dp, sh, nd, dz, sz, q⟩
  match us, r with
  | [u], .cons rx .nil =>
    obtain ⟨as, rd⟩ := Dp.reads I d x u dp rx
    have fin : ∀ h' t tk, (∀ b o, s.heap.get? b = some o → h'.get? b = some o) → EP X pins σ Q (.str d.shown t) { s with heap := h', toks := tk } := fun h' t tk k => ⟨.str d.shown, H, I.kept k, ⟨t, rfl⟩, q⟩
    cases x with
    | ref b =>
      cases rx
      exact repr_of_reads' rd sh (fun e => by rw [nd] at e; cases e) quiet (by omega) (fun _ _ e => e) (fun h' t tk k => fin h' t tk k) sz
    | non => cases rx; cases dp; exact PySem.P.repr_of_none (fin s.heap _ _ fun _ _ e => e)
    | bl b => cases rx; cases dp; exact PySem.P.repr_of_bool (fin s.heap _ _ fun _ _ e => e)
    | int i => obtain ⟨t, rfl⟩ := rx; cases dp; exact PySem.P.repr_of_int (by simpa [PyData.showable] using sh) (fin s.heap _ _ fun _ _ e => e)
    | str z => obtain ⟨t, rfl⟩ := rx; cases dp; exact PySem.P.repr_of_str (fin s.heap _ _ fun _ _ e => e) sz
    | _ => cases dp
def fRepr : List T → VH → Res T := fun ts h => match ts with
  | [t] => (match t.dat h 10 with
    | some d => if (d.showable && !d.hasDict && decide (d.shown.length ≤ 1000000)) = true then .ok (.str d.shown) h else .bad
    | none => .bad)
  | _ => .bad
theorem ct_repr : CT Y (rRepr Y.K) fRepr := fun ρ H ts vs h t h' Q r hr e to => by
  unfold fRepr at e
  split at e
  · rename_i u
    split at e
    · rename_i d ed
      split at e
      · rename_i c
        simp only [Bool.and_eq_true, Bool.not_eq_true', decide_eq_true_eq] at c
        cases e
        obtain ⟨v, rfl, rv⟩ := rps_one r
        obtain ⟨dp, _, dz⟩ := dat_ok hr _ _ _ _ rv ed
        exact ⟨v, d, rfl, dp, c.1.1, c.1.2, by omega, by rw [sizeLine_eq]; omega, to.to ρ H _ .refl hr (.str c.2)⟩
      · cases e
    · cases e
  · cases e
end
end TL
namespace TL
open PySem PySem.Spec L2
def keyT : T → Option Key
  | .int i => some (.inl i)
  | .str z => some (.inr z)
  | _ => none
section
variable {Y : Wd} {ρ : Rh} {H : Hp}
theorem keyT_ok {t : T} {v : V} {k : Key} (r : Rp Y ρ H t v) (e : keyT t = some k) : v = kV k := by
  cases r <;> simp [keyT] at e <;> subst e <;> rfl
theorem keyT_of {t : T} {k : Key} (r : Rp Y ρ H t (kV k)) : keyT t = some k := by
  cases k with
  | inl i => cases r; rfl
  | inr z => cases r; rfl
inductive DR (Y : Wd) (ρ : Rh) (H : Hp) : List (T × T) → List (Key × V) → Prop
  | nil : DR Y ρ H [] []
  | cons {kt t : T} {k : Key} {v : V} {kvs : List (T × T)} {vk : List (Key × V)} : Rp Y ρ H kt (kV k) → Rp Y ρ H t v → DR Y ρ H kvs vk → DR Y ρ H ((kt, t) :: kvs) ((k, v) :: vk)
theorem DR.keys {kvs : List (T × T)} {vk : List (Key × V)} (d : DR Y ρ H kvs vk) : Rps Y ρ H (kvs.map (·.1)) (vk.map fun q => kV q.1) := by
  induction d with
  | nil => exact .nil
  | cons a b _ ih => exact .cons a ih
theorem DR.vals {kvs : List (T × T)} {vk : List (Key × V)} (d : DR Y ρ H kvs vk) : Rps Y ρ H (kvs.map (·.2)) (vk.map (·.2)) := by
  induction d with
  | nil => exact .nil
  | cons a b _ ih => exact .cons b ih
theorem DR.of : ∀ {kvs : List (T × T)} {vk : List (Key × V)}, Rps Y ρ H (kvs.map (·.1)) (vk.map fun q => kV q.1) → Rps Y ρ H (kvs.map (·.2)) (vk.map (·.2)) → DR Y ρ H kvs vk
  | [], [], _, _ => .nil
  | [], _ :: _, a, _ => by cases a
  | _ :: _, [], a, _ => by cases a
  | (_, _) :: _, (_, _) :: _, a, b => by
    cases a with
    | cons a1 a2 => cases b with
      | cons b1 b2 => exact .cons a1 b1 (DR.of a2 b2)
theorem DR.or {kvs : List (T × T)} {vk : List (Key × V)} {a : Addr} (d : DR Y ρ H kvs vk) (e : H a = some (.dK vk)) : OR Y ρ H a (.dct kvs) := ⟨vk, e, d.keys, d.vals⟩
theorem DR.length {kvs : List (T × T)} {vk : List (Key × V)} (d : DR Y ρ H kvs vk) : vk.length = kvs.length := by
  induction d with
  | nil => rfl
  | cons _ _ _ ih => simp [ih]
theorem or_dct {kvs : List (T × T)} {a : Addr} (o : OR Y ρ H a (.dct kvs)) : ∃ vk, H a = some (.dK vk) ∧ DR Y ρ H kvs vk := by
  obtain ⟨vk, e, k, v⟩ := o
  exact ⟨vk, e, .of k v⟩
def getT (kvs : List (T × T)) (k : Key) : Option T := (kvs.find? fun q => decide (keyT q.1 = some k)).map (·.2)
def putT (kvs : List (T × T)) (k : Key) (kt v : T) : List (T × T) :=
  if (kvs.any fun q => decide (keyT q.1 = some k)) = true then kvs.map (fun q => if keyT q.1 = some k then (q.1, v) else q) else kvs ++ [(kt, v)]
theorem key_iff {kt : T} {k j : Key} (r : Rp Y ρ H kt (kV k)) : decide (keyT kt = some j) = decide (k = j) := by
  rw [keyT_of r]
  exact decide_eq_decide.mpr ⟨fun z => Option.some.inj z, fun z => by rw [z]⟩
theorem DR.get {kvs : List (T × T)} {vk : List (Key × V)} (d : DR Y ρ H kvs vk) (j : Key) : (getT kvs j = none ∧ valV vk j = none) ∨ ∃ t v, getT kvs j = some t ∧ valV vk j = some v ∧ Rp Y ρ H t v := by
  induction d with
  | nil => exact .inl ⟨rfl, rfl⟩
  | @cons kt t k v kvs vk a b d ih =>
    by_cases c : k = j
    · refine .inr ⟨t, v, ?_, valV_pos c, b⟩
      have := key_iff (j := j) a
      rw [decide_eq_true c] at this
      simp [getT, List.find?_cons, of_decide_eq_true this]
    · have e := key_iff (j := j) a
      rw [decide_eq_false c] at e
      rw [valV_neg c]
      have : getT ((kt, t) :: kvs) j = getT kvs j := by simp [getT, List.find?_cons, e]
      rw [this]
      exact ih
theorem DR.any {kvs : List (T × T)} {vk : List (Key × V)} (d : DR Y ρ H kvs vk) (j : Key) : (kvs.any fun q => decide (keyT q.1 = some j)) = vk.any fun q => decide (q.1 = j) := by
  induction d with
  | nil => rfl
  | cons a b d ih => simp only [List.any_cons, ih, key_iff a]
theorem DR.snoc {kvs : List (T × T)} {vk : List (Key × V)} (d : DR Y ρ H kvs vk) {kt t : T} {k : Key} {v : V} (a : Rp Y ρ H kt (kV k)) (b : Rp Y ρ H t v) : DR Y ρ H (kvs ++ [(kt, t)]) (vk ++ [(k, v)]) := by
  induction d with
  | nil => exact .cons a b .nil
  | cons a' b' _ ih => exact .cons a' b' ih
theorem DR.swap {kvs : List (T × T)} {vk : List (Key × V)} (d : DR Y ρ H kvs vk) {t : T} {k : Key} {v : V} (b : Rp Y ρ H t v) : DR Y ρ H (kvs.map fun q => if keyT q.1 = some k then (q.1, t) else q) (vk.map fun q => if q.1 = k then (q.1, v) else q) := by
  induction d with
  | nil => exact .nil
  | @cons kt' t' k' v' kvs vk a' b' d ih =>
    have e := key_iff (j := k) a'
    by_cases c : k' = k
    · rw [decide_eq_true c] at e
      simp only [List.map_cons, of_decide_eq_true e, c, if_true]
      exact .cons (c ▸ a') b ih
    · rw [decide_eq_false c] at e
      simp only [List.map_cons, of_decide_eq_false e, c, if_false]
      exact .cons a' b' ih
theorem DR.put {kvs : List (T × T)} {vk : List (Key × V)} (d : DR Y ρ H kvs vk) {kt t : T} {k : Key} {v : V} (a : Rp Y ρ H kt (kV k)) (b : Rp Y ρ H t v) : DR Y ρ H (putT kvs k kt t) (putK vk k v) := by
  unfold putT putK
  rw [d.any k]
  split
  · exact d.swap b
  · exact d.snoc a b
theorem DR.ev {ρ' : Rh} {H' : Hp} (e : EvR ρ H ρ' H') {kvs : List (T × T)} {vk : List (Key × V)} (d : DR Y ρ H kvs vk) : DR Y ρ' H' kvs vk := by
  induction d with
  | nil => exact .nil
  | cons a b _ ih => exact .cons (a.ev e) (b.ev e) ih
end
section
variable {X : Cx} {Y : Wd}
theorem DR.topush {ρ : Rh} {H : Hp} {p : Addr} {kvs : List (T × T)} {vk : List (Key × V)} (d : DR Y (ρ.ban p) H kvs vk) : DR Y (ρ.push p) H kvs vk := by
  induction d with
  | nil => exact .nil
  | cons a b _ ih => exact .cons a.topush b.topush ih
theorem DR.updb {ρ : Rh} {H : Hp} {p : Addr} {o : HO} (hp : p ∈ ρ.bn) {kvs : List (T × T)} {vk : List (Key × V)} (d : DR Y ρ H kvs vk) : DR Y ρ (upd H p o) kvs vk := by
  induction d with
  | nil => exact .nil
  | cons a b _ ih => exact .cons (a.updb hp) (b.updb hp) ih
def eDNew : ME := fun τ h => .ok (.ref h.length) (h ++ [.dct []])
theorem xDNew {pos : Pos} : PE X (.Dict [] [] pos) (TM Y eDNew) := pe_imp pe_dnewK fun σ H Q q => by
  obtain ⟨ρ, τ, h, u, h', G, e, to⟩ := q
  cases e
  intro p hp
  refine to.to (ρ.push p) _ _ (Ev.newρ hp) (G.hr.push hp (DR.nil.or upd_same)) (.ref ?_)
  show (ρ.ix ++ [p])[h.length]? = _
  rw [List.getElem?_append_right (by rw [G.hr.len]; exact Nat.le_refl _), G.hr.len]
  simp
theorem room1 {k : Nat} {A : Around} (r : Room k A) : A.units + 1 < cLine := by have := r.un; omega
def bGetD (a b : T) (h : VH) : Res T := match a with
  | .ref n => (match h[n]?, keyT b with
    | some (.dct kvs), some k => (match getT kvs k with
      | some t => .ok t h
      | none => .bad)
    | _, _ => .bad)
  | _ => .bad
theorem xDGet {o i : Expr} {pos : Pos} {f g : ME} (hu : X.A.units + 1 < cLine) (ho : PE X o (TM Y f)) (hi : PE X i (TM Y g)) (hs : NoSl i := by intro _ _; rfl) : PE X (.Subscript o i pos) (TM Y (eOp bGetD f g)) := pe_imp (pe_dget hu ho hi hs) fun σ H Q q => by
  refine tm_op (r := fun x y H Q => ∃ a v, x = .ref a ∧ DGet H a y (some v) ∧ Q v H) ?_ q
  intro ρ H t1 t2 v1 v2 h t h' Q r1 r2 hr e to
  unfold bGetD at e
  split at e
  · rename_i n
    split at e
    · rename_i kvs k en ek
      split at e
      · rename_i t0 et
        cases e
        cases r1 with
        | @ref _ a ha =>
          obtain ⟨vk, ea, d⟩ := or_dct (hr.at_ n _ a en ha)
          rcases d.get k with ⟨z, _⟩ | ⟨t1, v, z, ev, rv⟩
          · rw [et] at z; cases z
          · rw [et] at z
            cases z
            obtain rfl := keyT_ok r2 ek
            exact ⟨a, v, rfl, ev ▸ DGet.k ea, to.to ρ H _ .refl hr rv⟩
      · cases e
    · cases e
  · cases e
end
end TL
namespace TL
open PySem PySem.Spec L2 PyProof.Rows
def permL {α : Type} (ix : List Nat) (l : List α) : List α := ix.filterMap (l[·]?)
theorem Vals.perm {zs : List V} {ws : List Value} (r : Vals zs ws) : ∀ ix : List Nat, Vals (permL ix zs) (permL ix ws)
  | [] => .nil
  | i :: ix => by
    have ih := Vals.perm r ix
    unfold permL at ih ⊢
    simp only [List.filterMap_cons]
    cases e : zs[i]? with
    | none =>
      have := r.none_of e
      rw [this]
      exact ih
    | some z =>
      obtain ⟨u, e1, e2⟩ := r.get e
      rw [e1]
      exact .cons e2 ih
theorem Rps.perm {Y : Wd} {ρ : Rh} {H : Hp} {ts : List T} {vs : List V} (r : Rps Y ρ H ts vs) : ∀ ix : List Nat, Rps Y ρ H (permL ix ts) (permL ix vs)
  | [] => .nil
  | i :: ix => by
    have ih := Rps.perm r ix
    unfold permL at ih ⊢
    simp only [List.filterMap_cons]
    cases e : ts[i]? with
    | none =>
      have : vs[i]? = none := by
        rw [List.getElem?_eq_none_iff] at e ⊢
        rw [r.length]; exact e
      rw [this]
      exact ih
    | some t =>
      obtain ⟨v, e1, e2⟩ := r.get e
      rw [e1]
      exact .cons e2 ih
section
variable {X : Cx} {Y : Wd}
theorem xkNil : PK X [] (TMA Y aNil) := ⟨fun pos pins s σ H Q I q => by
  obtain ⟨ρ, τ, h, t, h', G, e, to⟩ := q
  cases e
  exact pk_nil.run pos pins s σ H Q I (to.to ρ H [] .refl G.hr .nil)⟩
theorem xkCons {nm : Option Str} {e : Expr} {kpos : Pos} {kws : List Keyword} {f : ME} {g : MA} (ha : PE X e (TM Y f)) (hr : PK X kws (TMA Y g)) : PK X (⟨nm, e, kpos⟩ :: kws) (TMA Y (aCons f g)) := ⟨fun pos pins s σ H Q I q => by
  refine (pk_cons ha hr).run pos pins s σ H Q I ?_
  obtain ⟨ρ, τ, h, u, h', G, e, to⟩ := q
  unfold aCons at e
  cases e1 : f τ h with
  | bad => simp only [e1] at e; cases e
  | ok t h1 =>
    simp only [e1] at e
    cases e2 : g τ h1 with
    | bad => simp only [e2] at e; cases e
    | ok ts h2 =>
      simp only [e2] at e
      cases e
      exact ⟨ρ, τ, h, t, h1, G, e1, ⟨fun ρ1 H1 v ev hr1 r => ⟨ρ1, τ, h1, _, _, G.ev ev hr1, e2, ⟨fun ρ2 H2 vs ev2 hr2 rs => to.to ρ2 H2 (v :: vs) (ev.trans ev2) hr2 (.cons (r.ev ev2.toEvR) rs)⟩⟩⟩⟩⟩
def aPerm (ix : List Nat) (g : MA) : MA := fun τ h => match g τ h with
  | .ok ts h1 => .ok (permL ix ts) h1
  | .bad => .bad
theorem tma_perm {ix : List Nat} {g : MA} {σ : St} {H : Hp} {R : List V → Hp → Prop} (q : TMA Y (aPerm ix g) σ H R) : TMA Y g σ H fun zs H1 => R (permL ix zs) H1 := by
  obtain ⟨ρ, τ, h, u, h', G, e, to⟩ := q
  unfold aPerm at e
  cases e1 : g τ h with
  | bad => rw [e1] at e; cases e
  | ok ts h1 =>
    rw [e1] at e
    cases e
    exact ⟨ρ, τ, h, ts, _, G, e1, ⟨fun ρ' H' zs ev hr rs => to.to ρ' H' _ ev hr (rs.perm ix)⟩⟩
structure KwB (K : PySem.W.Frag) (fd : FuncData) (ps ks : List Str) (n : Nat) (ix : List Nat) : Prop where
  to : ∀ (s : Shared) (us ws : List Value), K.In s.heap → us.length = n → ws.length = ks.length → BindsTo s fd ⟨us, ks.zip ws⟩ (ps.zip (us ++ permL ix ws))
theorem kwB {K : PySem.W.Frag} {x qual : Str} {params : Arguments} {body : List Stmt} {scope : Scope} {kws : List (Str × V)} {f : Addr} {fd : FuncData} {ps ks : List Str} {n : Nat} {ix : List Nat} (F : FunD K x qual params body scope [] kws f fd)
    (h : ∀ (kV doc pm : Value) (an : Option Addr) (cdv ct : Value) (us ws : List Value), us.length = n → ws.length = ks.length → bindArgs (PySem.W.fnOf x qual params body scope .none kV doc pm an cdv ct) ⟨us, ks.zip ws⟩ = pure (ps.zip (us ++ permL ix ws))) : KwB K fd ps ks n ix := by
  obtain ⟨oc, od, dV, kV, doc, pm, an, cdv, ct, osl, rfl, _, _, hD, _⟩ := F.ex
  rcases hD with ⟨_, rfl⟩ | ⟨e, _⟩
  · exact ⟨fun s us ws _ l1 l2 => .of_eq (h kV doc pm an cdv ct us ws l1 l2)⟩
  · exact absurd rfl e
theorem xCallKw {k : Nat} {f : Addr} {fd : FuncData} {ps ks : List Str} {ix : List Nat} {m : List T → VH → Res T} {x : Str} {p pos : Pos} {kws : List Keyword} {g : MA} (F : FnOk X.prog X.w X.K X.mg X.base CX0 k f fd ps (spM Y m)) (hr : Room k X.A) (hg : Gl X x) (hm : X.mg x = some (.ref f)) (kp : PySem.W.keepIn X.K (.ref f) = true)
    (hb : KwB X.K fd ps ks 0 ix) (ha : PK X kws (TMA Y g)) (hl : kws.length = ks.length := by rfl) (hall : (backToKw pos (keywordEach kws X.env)).all (·.1.isSome) = true := by rfl) (hks : (backToKw pos (keywordEach kws X.env)).filterMap (·.1) = ks := by rfl)
    (hdb : (x == ("__debug__" : Str)) = false := by decide) (hpl : ((backTo pos (starEach [] X.env)).any (·.1) || (backToKw pos (keywordEach kws X.env)).any (·.1.isNone)) = false := by rfl) (hn : ∀ σ H R, TMA Y g σ H R → TMA Y g σ H fun vs H' => vs.length = ks.length ∧ R vs H') :
    PE X (.Call (.Name x p) [] kws pos) (TM Y (eCall m (aPerm ix g))) := by
  constructor
  intro pins s σ H Q I q
  have vals := ha.run pos pins s σ H _ I (hn _ _ _ (tma_perm (tm_call (ct_sp (m := m) E0) q)))
  refine wpAny_Call_Name_kw (ld_glob I hg hm (PySem.W.callWith_KW0 (h₀ := X.base) I.mod.kin kp hall (thn vals ?_) hpl) hdb)
  rintro ws s1 ⟨zs, H1, J, r, nz, sp⟩
  rw [hks]
  have rp := Vals.perm r ix
  have bd := hb.to s1 [] ws J.kIn rfl (r.length.symm.trans nz)
  refine ⟨J.kIn, wpAny_call (codeAny_mono (F.run X.A X.stack s1 H1 _ _ (permL ix zs) Q E0 hr J.env0 bd rp sp) ?_)⟩
  intro res s2 z
  match res, z with
  | .ok (.ret u), z => exact J.after z
  | .error v, z => exact z.elim
theorem tma_len {g : MA} {n : Nat} (hg : ∀ τ h ts h', g τ h = .ok ts h' → ts.length = n) : ∀ σ H R, TMA Y g σ H R → TMA Y g σ H fun vs H' => vs.length = n ∧ R vs H' := by
  rintro σ H R ⟨ρ, τ, h, ts, h', G, e, to⟩
  exact ⟨ρ, τ, h, ts, h', G, e, ⟨fun ρ' H' vs ev hr rs => ⟨by rw [rs.length]; exact hg τ h ts h' e, to.to ρ' H' vs ev hr rs⟩⟩⟩
theorem len_nil : ∀ (τ : TS_) (h : VH) (ts : List T) (h' : VH), aNil τ h = .ok ts h' → ts.length = 0 := by
  intro τ h ts h' e; cases e; rfl
theorem len_cons {f : ME} {g : MA} {n : Nat} (hg : ∀ (τ : TS_) (h : VH) (ts : List T) (h' : VH), g τ h = .ok ts h' → ts.length = n) : ∀ (τ : TS_) (h : VH) (ts : List T) (h' : VH), aCons f g τ h = .ok ts h' → ts.length = n + 1 := by
  intro τ h ts h' e
  unfold aCons at e
  cases e1 : f τ h with
  | bad => simp only [e1] at e; cases e
  | ok t h1 =>
    simp only [e1] at e
    cases e2 : g τ h1 with
    | bad => simp only [e2] at e; cases e
    | ok us h2 => simp only [e2] at e; cases e; simp [hg _ _ _ _ e2]
def eGetK (kvs : List (Str × T)) (f : ME) : ME := fun τ h => match f τ h with
  | .ok (.str z) h1 => .ok ((kvs.lookup z).getD .non) h1
  | _ => .bad
theorem xGetK {b : Expr} {x : Str} {f : ME} {apos cpos p : Pos} {d : Addr} {kvs : List (Str × T)} (hK : X.K = Y.K) (D : KD Y X.w d kvs) (hg : Gl X x) (hm : X.mg x = some (.ref d)) (hb : PE X b (TM Y f)) (m : M1 X (.Name x p) "get" apos b cpos := by exact ⟨rfl, rfl, rfl, rfl⟩) (hd : (x == ("__debug__" : Str)) = false := by decide) :
    PE X (.Call (.Attribute (.Name x p) "get" apos) [b] [] cpos) (TM Y (eGetK kvs f)) := by
  constructor
  rintro pins s σ H Q I ⟨ρ, τ, h, u, h', G, e, to⟩
  obtain ⟨es, n, kd, _⟩ := D.kd
  rw [← hK] at kd
  unfold eGetK at e
  split at e
  case h_2 => cases e
  rename_i z h1 e1
  cases e
  have name := (pe_glob (pos := p) hg hm (v := .ref d) rfl hd).run pins s σ H (fun v H' => v = .ref d ∧ H' = H) I ⟨rfl, rfl⟩
  refine wpAny_Call_method m.base m.few m.line PySem.F.plainAttrs_dict PySem.F.slot_dict_get PySem.F.type_dict_get (thn name ?_)
  rintro u s1 ⟨v, H1, I1, ru, rfl, rfl⟩
  obtain rfl : u = Value.ref d := ru
  have mo := PySem.W.mapOf_K (prog := X.prog) (w := X.w) I1.kIn kd.at_ kd.lit
  refine ⟨mo.typeIs, fun c q => by cases q; exact ⟨_, I1.kIn _ _ kd.at_, rfl⟩, ?_⟩
  rw [m.trees]
  refine Calls.callWith_builtin rfl (Calls.evalArgs_plain (Calls.spliced_cons (thn (hb.run pins s1 σ H1 _ I1 ⟨ρ, τ, h, .str z, _, G, e1, ⟨fun ρ2 H2 v2 ev hr r => (⟨z, .ref d, ?_⟩ : ∃ z' d', v2 = V.str z' ∧ d' = V.ref d ∧ ∀ w, (∀ u', PySem.W.nsIn X.K d z' = some (some u') → RelV w u') → (PySem.W.nsIn X.K d z' = some none → w = .non) → Q w H2)⟩⟩) ?_)))
  · cases r
    refine ⟨rfl, rfl, fun w h1 h2 => to.to ρ2 H2 _ ev hr ?_⟩
    cases ek : kvs.lookup z with
    | none =>
      rw [h2 (by rw [hK]; exact D.miss z ek)]
      exact .non
    | some t =>
      obtain ⟨u', v', n1, n2, n3⟩ := D.val z t ek
      have n4 := h1 u' (by rw [hK]; exact n1)
      have : w = v' := RelV.inj n4 n2
      rw [this]
      exact n3 ρ2 H2
  · rintro iv s2 ⟨y, H2, I2, ry, z', d', rfl, rfl, fin⟩
    obtain ⟨t, rfl⟩ := ry
    refine Calls.spliced_nil ?_
    have mo := PySem.W.mapOf_K (prog := X.prog) (w := X.w) I2.kIn kd.at_ kd.lit
    refine call_meetsIn PySem.F.slot_dict_get mo.typeIs PySem.F.entry_dict_get (PySem.F.args_dict_get_2 _ _) (meets_dict_get (strKind X.prog X.w) d (strKind_is X.prog X.w z' t) kd.low) ⟨_, mo, ?_⟩
    have J := I2.tok (s2.toks + 1)
    cases ek : kvs.lookup z' with
    | none =>
      have e3 : PySem.W.nsIn X.K d z' = some none := by rw [hK]; exact D.miss z' ek
      rw [PySem.W.find_K kd.at_ e3]
      exact ⟨.non, H2, J, rfl, fin .non (fun u' q => by rw [e3] at q; cases q) fun _ => rfl⟩
    | some t' =>
      obtain ⟨u', v', n1, n2, n3⟩ := D.val z' t' ek
      have e3 : PySem.W.nsIn X.K d z' = some (some u') := by rw [hK]; exact n1
      rw [PySem.W.find_K kd.at_ e3]
      exact ⟨v', H2, J, n2, fin v' (fun u2 q => by rw [e3] at q; cases q; exact n2) fun q => by rw [e3] at q; cases q⟩
def mRg1 (f : ME) : MA := fun τ h => match f τ h with
  | .ok (.int j) h1 => if -1000000000 ≤ j ∧ j ≤ 16777216 then .ok (rangeT 0 j.toNat) h1 else .bad
  | _ => .bad
def mRg2 (f g : ME) : MA := fun τ h => match f τ h with
  | .ok (.int i) h1 => (match g τ h1 with
    | .ok (.int j) h2 => if (-1000000000 ≤ i ∧ i ≤ 1000000000 ∧ -1000000000 ≤ j ∧ j ≤ 1000000000) ∧ (j - i).toNat ≤ 16777216 then .ok (rangeT i (j - i).toNat) h2 else .bad
    | _ => .bad)
  | _ => .bad
theorem rg_rps {ρ : Rh} {H : Hp} {a b : Int} : Rps Y ρ H (rangeT a (b - a).toNat) (rgV a b) := by
  unfold rangeT rgV
  generalize (List.range (b - a).toNat) = l
  induction l with
  | nil => exact .nil
  | cons x l ih => exact .cons (.int _) ih
theorem rg_size {a b : Int} (h : (b - a).toNat ≤ 16777216) : (rgV a b).length ≤ sizeLine := by rw [rgV_length, sizeLine_eq]; exact h
theorem xListRg1 {a : Expr} {f : ME} {p p2 pos pos2 : Pos} (hc : X.calm = true) (hg : Gl X "list") (hm : X.mg "list" = none) (hg2 : Gl X "range") (hm2 : X.mg "range" = none) (ha : PE X a (TM Y f)) (na : starEach [a] X.env = (false, eval a X.env) :: starEach [] X.env := by rfl)
    (nb : starEach [.Call (.Name "range" p2) [a] [] pos2] X.env = (false, eval (.Call (.Name "range" p2) [a] [] pos2) X.env) :: starEach [] X.env := by rfl) : PE X (.Call (.Name "list" p) [.Call (.Name "range" p2) [a] [] pos2] [] pos) (TMF Y (mRg1 f)) :=
  pe_imp (pe_listRg hc hg hm (prg_1 hg2 hm2 ha na) nb) fun σ H Q q => by
    obtain ⟨ρ, τ, h, u, h', G, e, to⟩ := q
    unfold mRg1 at e
    split at e
    · rename_i j h1 e1
      split at e
      · rename_i hz
        cases e
        refine ⟨ρ, τ, h, _, _, G, e1, ⟨fun ρ1 H1 v ev hr r => ?_⟩⟩
        cases r
        have sz : (j - 0).toNat ≤ 16777216 := by omega
        refine ⟨j, rfl, ⟨by omega, by omega, by omega, by omega, by omega⟩, fun D hD => ?_⟩
        have rs : Rps Y ρ1 H1 (rangeT 0 j.toNat) (rgV 0 j) := by have z := rg_rps (Y := Y) (ρ := ρ1) (H := H1) (a := 0) (b := j); rw [Int.sub_zero] at z; exact z
        obtain ⟨n1, n2, n3, n4⟩ := newL hr rs (rg_size sz) hD
        exact to ρ1 _ D _ (ev.trans (Ev.new hD)) n1 (ev.fresh hD) n2 n3 n4
      · cases e
    · cases e
end
end TL
namespace TL
open PySem PySem.Spec L2
end TL
namespace TL
open PySem PySem.Spec L2
mutual
def wide : PyData → Nat
  | .none => 4
  | .bool _ => 5
  | .int i => i.natAbs.log2 + 2
  | .str x => (reprText x).length
  | .list xs => wides xs + 2
  | .tuple xs => wides xs + 3
  | .dict _ => 0
def wides : List PyData → Nat
  | [] => 0
  | x :: xs => wide x + 2 + wides xs
end
def lens (ts : List Str) : Nat := (ts.map fun t => t.length + 2).sum
theorem textFrom_le : ∀ (ts : List Str) (k : Nat) (acc : Str), (textFrom k acc ts).length ≤ acc.length + lens ts
  | [], k, acc => by simp [textFrom, lens]
  | t :: ts, k, acc => by
    have ih := textFrom_le ts (k + 1) (acc ++ (if k > 0 then ", " else "" : String) ++ t)
    have e : (acc ++ (if k > 0 then ", " else "" : String) ++ t).length ≤ acc.length + 2 + t.length := by
      rw [len_app, len_app]
      have : (Str.ofString (if k > 0 then ", " else "")).length ≤ 2 := by split <;> decide
      omega
    have l : lens (t :: ts) = t.length + 2 + lens ts := by simp [lens]
    rw [l]
    show (textFrom (k + 1) _ ts).length ≤ _
    omega
theorem listText_le (ts : List Str) : (listText ts).length ≤ lens ts + 2 := by
  unfold listText
  rw [len_app]
  have h := textFrom_le ts 0 "["
  have a : (Str.ofString "[").length = 1 := by decide
  have b : (Str.ofString "]").length = 1 := by decide
  omega
theorem join_le : ∀ ts : List Str, (Str.join ", " ts).length ≤ lens ts
  | [] => by decide
  | [x] => by simp [lens, Str.join]
  | x :: y :: r => by
    have ih := join_le (y :: r)
    have l : lens (x :: y :: r) = x.length + 2 + lens (y :: r) := by simp [lens]
    have e : Str.join ", " (x :: y :: r) = x ++ ", " ++ Str.join ", " (y :: r) := rfl
    rw [l, e, len_app, len_app]
    have : ((", " : String) : Str).length = 2 := by decide
    omega
theorem tupleText_le (ts : List Str) : (tupleText ts).length ≤ lens ts + 3 := by
  unfold tupleText
  rw [len_app, len_app]
  have h := join_le ts
  have a : (Str.ofString "(").length = 1 := by decide
  have b : (Str.ofString (if (ts.length == 1) = true then ",)" else ")")).length ≤ 2 := by split <;> decide
  omega
mutual
theorem shown_le : ∀ d : PyData, d.hasDict = false → d.shown.length ≤ wide d
  | .none, _ => by decide
  | .bool true, _ => by decide
  | .bool false, _ => by decide
  | .int i, _ => by
    have := int_text_length_le (a := i) (k := i.natAbs.log2 + 1) (by omega) (by omega)
    simp only [PyData.shown, wide]
    rw [ofString_length]
    omega
  | .str x, _ => by simp only [PyData.shown, wide]; exact Nat.le_refl _
  | .list xs, h => by
    have := shownAll_le xs (by simpa [PyData.hasDict] using h)
    have := listText_le (PyData.shownAll xs)
    simp only [PyData.shown, wide]
    omega
  | .tuple xs, h => by
    have := shownAll_le xs (by simpa [PyData.hasDict] using h)
    have := tupleText_le (PyData.shownAll xs)
    simp only [PyData.shown, wide]
    omega
  | .dict kvs, h => by simp [PyData.hasDict] at h
theorem shownAll_le : ∀ ds : List PyData, PyData.hasDictAll ds = false → lens (PyData.shownAll ds) ≤ wides ds
  | [], _ => by simp [PyData.shownAll, lens, wides]
  | d :: ds, h => by
    simp only [PyData.hasDictAll, Bool.or_eq_false_iff] at h
    have a := shown_le d h.1
    have b := shownAll_le ds h.2
    have l : lens (PyData.shownAll (d :: ds)) = d.shown.length + 2 + lens (PyData.shownAll ds) := by simp [lens, PyData.shownAll]
    rw [l]
    simp only [wides]
    omega
end
theorem repr_ok {t : T} {h : VH} {d : PyData} (e : T.dat h 10 t = some d) (s : d.showable = true) (n : d.hasDict = false) (w : wide d ≤ 1000000) : fRepr [t] h = .ok (.str d.shown) h := by
  have := shown_le d n
  simp only [fRepr, e, s, n, Bool.not_false, Bool.and_true, Bool.true_and]
  rw [if_pos (decide_eq_true (by omega))]
theorem eq_strs (x y : Str) (h : VH) : TL.bEq (.str x) (.str y) h = .ok (.bl (x == y)) h := by
  unfold TL.bEq bEqG
  simp only [dat_str, PyData.eqv]
theorem ne_strs (x y : Str) (h : VH) : bNe (.str x) (.str y) h = .ok (.bl (!(x == y))) h := by
  unfold bNe bEqG
  simp only [dat_str, PyData.eqv]
end TL
namespace TL
open PySem PySem.Spec L2
end TL
namespace TL
open PySem PySem.Spec L2
open PySem.W (alike AllAlike Sortable dataLe EachIs)
def isTupD : PyData → Bool
  | .tuple (_ :: _) => true
  | _ => false
def noTupD : PyData → Bool
  | .none => false
  | .tuple _ => false
  | _ => true
def sortOk (ds : List PyData) : Bool := (ds.all fun d => ds.all fun e => alike d e) && (ds.all isTupD || ds.all noTupD)
theorem sortOk_ok {ds : List PyData} (h : sortOk ds = true) : AllAlike ds ∧ Sortable ds := by
  unfold sortOk at h
  rw [Bool.and_eq_true] at h
  refine ⟨fun d hd e he => List.all_eq_true.mp (List.all_eq_true.mp h.1 d hd) e he, ?_⟩
  rcases Bool.or_eq_true .. ▸ h.2 with q | q
  · refine .inl fun d hd => ?_
    have := List.all_eq_true.mp q d hd
    unfold isTupD at this
    split at this
    · exact ⟨_, _, rfl⟩
    · cases this
  · refine .inr fun d hd => ?_
    have := List.all_eq_true.mp q d hd
    unfold noTupD at this
    split at this
    · cases this
    · cases this
    · rename_i a b
      exact ⟨a, fun xs e => b xs e⟩
def sortT (ts : List T) (ds : List PyData) : List T := ((ts.zip ds).mergeSort (dataLe false Prod.snd)).map Prod.fst
abbrev Tri := T × V × PyData
def rSortD (K : PySem.W.Frag) : List V → Hp → VK → Prop := fun vs H Q => ∃ (a : Addr) (zs : List Tri), vs = [V.ref a] ∧ SqL K H a (zs.map (·.2.1)) ∧ DpAll K H (zs.map (·.2.1)) (zs.map (·.2.2)) ∧ sortOk (zs.map (·.2.2)) = true ∧ (∀ z ∈ zs, z.2.2.depth ≤ 10) ∧
  ∀ p : Addr, H p = none → Q (.ref p) (upd H p (.lst ((zs.mergeSort (dataLe false (·.2.2))).map (·.2.1))))
theorem each_tri {zs : List Tri} : ∀ {us : List Value}, Vals (zs.map (·.2.1)) us → EachIs (fun u (z : Tri) => RelV z.2.1 u) us zs := by
  induction zs with
  | nil => intro us r; cases r; exact .nil
  | cons z zs ih =>
    intro us r
    cases r with
    | cons a b => exact .cons a (ih b)
theorem tri_vals {zs : List Tri} : ∀ {us : List Value}, EachIs (fun u (z : Tri) => RelV z.2.1 u) us zs → Vals (zs.map (·.2.1)) us := by
  induction zs with
  | nil => intro us r; cases r; exact .nil
  | cons z zs ih =>
    intro us r
    cases r with
    | cons a b => exact .cons a (ih b)
theorem cr_sortedD {X : Cx} (hu : X.A.units + 40 < cLine) : CallR X (.builtin "sorted") (rSortD X.K) := by
  intro pins s σ H vs us Q I r h
  obtain ⟨a, zs, rfl, hs, hd, ok, dp, q⟩ := h
  obtain ⟨its, rv, hl, hz⟩ := I.list hs
  rw [Vals.ref1 r]
  obtain ⟨al, so⟩ := sortOk_ok ok
  obtain ⟨as, rd⟩ := Dp.readsAll I (zs.map (·.2.2)) (zs.map (·.2.1)) its hd rv
  have er := PySem.W.readsAll_each (fun z : Tri => z.2.2) rd
  rw [List.length_map] at hz
  refine PySem.W.sorted_data (R := fun u (z : Tri) => RelV z.2.1 u) (enc := fun z : Tri => z.2.2) hl.isList (each_tri rv) er al so hz (fun b hb => by have := dp b hb; omega) fun out h1 h2 => ?_
  obtain ⟨ep, he'⟩ := PyProof.Rows.sortedAll_at s.heap its out.toArray
  have hlen : ((zs.mergeSort (dataLe false (fun z : Tri => z.2.2))).map (·.2.1)).length ≤ sizeLine := by
    rw [List.length_map, List.length_mergeSort]
    exact hz
  exact ⟨.ref _, upd H (s.heap.objs.size + 1) (.lst ((zs.mergeSort (dataLe false (fun z : Tri => z.2.2))).map (·.2.1))), I.laid (t' := s.toks) (fun _ _ => PyProof.Rows.sortedAll_old) (Nat.le_succ _) ⟨hlen, out, ep, tri_vals h2, he'⟩, rfl, q _ (I.hok.fresh (Nat.le_succ _))⟩
section
variable {X : Cx} {Y : Wd}
def triL : List T → List V → List PyData → List Tri
  | t :: ts, v :: vs, d :: ds => (t, v, d) :: triL ts vs ds
  | _, _, _ => []
theorem triL_ok {ρ : Rh} {H : Hp} : ∀ {ts : List T} {vs : List V} {ds : List PyData}, Rps Y ρ H ts vs → ds.length = ts.length → (triL ts vs ds).map (·.2.1) = vs ∧ (triL ts vs ds).map (·.2.2) = ds ∧ (triL ts vs ds).map (fun z => (z.1, z.2.2)) = ts.zip ds ∧ ∀ z ∈ triL ts vs ds, Rp Y ρ H z.1 z.2.1
  | [], _, ds, r, h => by
    cases r
    cases ds with
    | nil => exact ⟨rfl, rfl, rfl, fun z hz => by cases hz⟩
    | cons _ _ => simp at h
  | t :: ts, _, ds, r, h => by
    cases r with
    | cons a b =>
      cases ds with
      | nil => simp at h
      | cons d ds =>
        obtain ⟨h1, h2, h3, h4⟩ := triL_ok b (by simpa using h)
        refine ⟨by simp [triL, h1], by simp [triL, h2], by simp [triL, h3], fun z hz => ?_⟩
        rcases List.mem_cons.mp hz with rfl | hz
        · exact a
        · exact h4 z hz
theorem tri_rps {ρ : Rh} {H : Hp} : ∀ {zs : List Tri}, (∀ z ∈ zs, Rp Y ρ H z.1 z.2.1) → Rps Y ρ H (zs.map (·.1)) (zs.map (·.2.1))
  | [], _ => .nil
  | z :: zs, h => .cons (h z List.mem_cons_self) (tri_rps fun y hy => h y (List.mem_cons_of_mem _ hy))
theorem sort_tri (zs : List Tri) : (zs.mergeSort (dataLe false (fun z : Tri => z.2.2))).map (fun z => (z.1, z.2.2)) = (zs.map fun z => (z.1, z.2.2)).mergeSort (dataLe false Prod.snd) :=
  List.map_mergeSort fun a _ b _ => rfl
def fSorted (ts : List T) (h : VH) : Res (List T) := match ts with
  | [t] => (match listOf h t with
    | some us => (match us.mapM (T.dat h 10) with
      | some ds => if sortOk ds = true then .ok (sortT us ds) h else .bad
      | none => .bad)
    | none => .bad)
  | _ => .bad
theorem ctf_sorted : CTF Y (rSortD Y.K) fSorted := fun ρ H ts vs h us h' Q r hr e to => by
  unfold fSorted at e
  split at e
  · split at e
    · rename_i us' e1
      split at e
      · rename_i ds e2
        split at e
        · rename_i ok
          cases e
          obtain ⟨v, rfl, rv⟩ := rps_one r
          obtain ⟨a, ws, rfl, hs, hz, rs⟩ := listOf_ok rv hr e1
          obtain ⟨dp, _, dd⟩ := dats_ok (fun t v d => dat_ok hr 10 t v d) rs e2
          have hl : ds.length = us'.length := by
            have z1 := rs.length
            have z2 : ∀ {vs : List V} {ds : List PyData}, DpAll Y.K H vs ds → ds.length = vs.length := by
              intro vs
              induction vs with
              | nil => intro ds q; cases q; rfl
              | cons v vs ih =>
                intro ds q
                cases q with
                | cons _ q => simp [ih q]
            have := z2 dp
            omega
          obtain ⟨h1, h2, h3, h4⟩ := triL_ok rs hl
          refine ⟨a, triL us' ws ds, rfl, by rw [h1]; exact hs, by rw [h1, h2]; exact dp, by rw [h2]; exact ok, fun z hz' => ?_, ?_⟩
          · have m : z.2.2 ∈ ds := by rw [← h2]; exact List.mem_map.mpr ⟨z, hz', rfl⟩
            have key : ∀ {ds : List PyData} {d : PyData}, d ∈ ds → d.depth ≤ PyData.depthAll ds := by
              intro ds
              induction ds with
              | nil => intro d hd; cases hd
              | cons e ds ih =>
                intro d hd
                rw [PyData.depthAll]
                rcases List.mem_cons.mp hd with rfl | hd
                · exact Nat.le_max_left _ _
                · exact Nat.le_trans (ih hd) (Nat.le_max_right _ _)
            exact Nat.le_trans (key m) dd
          · have e3 : sortT us' ds = ((triL us' ws ds).mergeSort (dataLe false (fun z : Tri => z.2.2))).map (·.1) := by
              unfold sortT
              rw [← h3, ← sort_tri, List.map_map]
              rfl
            have rs2 := tri_rps (Y := Y) (ρ := ρ) (H := H) (zs := (triL us' ws ds).mergeSort (dataLe false (fun z : Tri => z.2.2))) fun z hz => h4 z (List.mem_mergeSort.mp hz)
            rw [← e3] at rs2
            refine lay hr rs2 ?_ to
            rw [List.length_map, List.length_mergeSort, ← List.length_map (as := triL us' ws ds) (f := fun z : Tri => z.2.1), h1]
            exact hz
        · cases e
      · cases e
    · cases e
  · cases e
theorem xSorted {k : Nat} {e : Expr} {g : MA} {p pos : Pos} (hK : X.K = Y.K) (hu : Room k X.A) (hg : Gl X "sorted") (hm : X.mg "sorted" = none) (ha : PA X [e] (TMA Y g)) (he : starEach [e] X.env = (false, eval e X.env) :: starEach [] X.env := by rfl) :
    PE X (.Call (.Name "sorted" p) [e] [] pos) (TMF Y (mCall fSorted g)) :=
  xCallBF (r := rSortD Y.K) ctf_sorted (hK ▸ cr_sortedD (by have := room80 hu; omega)) hg hm bt_sorted ha (by decide) (by decide) he
end
end TL
namespace TL
open PySem PySem.Spec L2
section
variable {X : Cx} {Y : Wd}
def eProp (c : Nat) (m : List T → VH → Res T) (f : ME) : ME := fun τ h => match f τ h with
  | .ok o h1 => (match getI h1 o with
    | some (c', _) => if c' = c then m [o] h1 else .bad
    | none => .bad)
  | .bad => .bad
theorem xProp {c k : Nat} {C p g : Addr} {fd : FuncData} {ps : List Str} {m : List T → VH → Res T} {e : Expr} {f : Str} {t : ME} {pos : Pos} (hK : X.K = Y.K) (hc : Y.cm c = some C) (cl : Cls Y.K C) (hp : PropOf Y.K C f p g) (F : FnOk X.prog X.w X.K X.mg X.base CX0 k g fd ps (spM Y m)) (hr : Room (k + 1) X.A) (hb : Binds X.K fd ps [])
    (he : PE X e (TM Y t)) (hab : attributeBase e f X.env (eval e X.env) = eval e X.env := by rfl) : PE X (.Attribute e f pos) (TM Y (eProp c m t)) := pe_imp (pe_prop he (hK ▸ cl) (hK ▸ hp) F hr hb .nil pass0 hab) fun σ H Q q => by
  obtain ⟨ρ, τ, h, u, h', G, e, to⟩ := q
  unfold eProp at e
  cases e1 : t τ h with
  | bad => simp only [e1] at e; cases e
  | ok o h1 =>
    simp only [e1] at e
    split at e
    · rename_i c' fs eo
      split at e
      · rename_i ec
        subst ec
        refine ⟨ρ, τ, h, o, _, G, e1, ⟨fun ρ1 H1 v ev hr1 r => ?_⟩⟩
        obtain ⟨a, C', dx, vfs, rfl, hc', ha, hm, rs⟩ := getI_ok r hr1 eo
        rw [hc] at hc'
        cases hc'
        exact ⟨a, dx, vfs, rfl, ha, ρ1, [o], h1, u, h', .cons r .nil, hr1, e, ⟨fun ρ' H' v ev' hr' r' => to.to ρ' H' v (ev.trans ev') hr' r'⟩⟩
      · cases e
    · cases e
def mCount (o : T) (ts : List T) (h : VH) : Res T := match o, ts with
  | .str a, [.str b] => .ok (.int (Txt.count a b)) h
  | _, _ => .bad
theorem mt_count' : MT Y "str" (fun x xs H Q => ∃ a b, x = .str a ∧ xs = [.str b] ∧ Q (.int (Txt.count a b)) H) mCount := fun ρ0 H0 h0 ρ H o ts vo vs h t h' Q ro hr0 ev r hr e to => by
  unfold mCount at e
  split at e
  · rename_i a b
    cases e
    cases ro with
    | str ha =>
      obtain ⟨v, rfl, rv⟩ := rps_one r
      cases rv with
      | str hb => exact ⟨a, b, rfl, rfl, to.to ρ H _ .refl hr (.int _)⟩
  · cases e
end
end TL
namespace TL
open PySem PySem.Spec L2
theorem eq_of_strict {α : Type} (k : α → Int) : ∀ {l1 l2 : List α}, l1.Pairwise (fun x y => k x < k y) → l2.Pairwise (fun x y => k x < k y) → (∀ x, x ∈ l1 ↔ x ∈ l2) → l1 = l2
  | [], [], _, _, _ => rfl
  | [], b :: l2, _, _, h => by have := (h b).mpr List.mem_cons_self; cases this
  | a :: l1, [], _, _, h => by have := (h a).mp List.mem_cons_self; cases this
  | a :: l1, b :: l2, h1, h2, h => by
    rw [List.pairwise_cons] at h1 h2
    have ab : a = b := by
      rcases List.mem_cons.mp ((h a).mp List.mem_cons_self) with e | m
      · exact e
      · rcases List.mem_cons.mp ((h b).mpr List.mem_cons_self) with e | m'
        · exact e.symm
        · have := h2.1 a m
          have := h1.1 b m'
          omega
    subst ab
    refine congrArg (a :: ·) (eq_of_strict k h1.2 h2.2 fun x => ⟨fun m => ?_, fun m => ?_⟩)
    · rcases List.mem_cons.mp ((h x).mp (List.mem_cons_of_mem _ m)) with e | m'
      · subst e; have := h1.1 x m; omega
      · exact m'
    · rcases List.mem_cons.mp ((h x).mpr (List.mem_cons_of_mem _ m)) with e | m'
      · subst e; have := h2.1 x m; omega
      · exact m'
def dedupL : List (List Int) → List (List Int)
  | [] => []
  | x :: r => if x ∈ r then dedupL r else x :: dedupL r
abbrev BB : Int := 1000000
def codeLe (a b : List Int) : Bool := decide (TS.code BB a ≤ TS.code BB b)
def sortRows (ns : List (List Int)) : List (List Int) := (dedupL ns).mergeSort codeLe
def rowsOk (ns : List (List Int)) : Bool := decide (ns.length < 64) && (decide (1 ≤ (ns.headD [0]).length) && ns.all fun n => decide (n.length = (ns.headD [0]).length) && n.all fun m => decide (0 ≤ m) && decide (m < BB))
section
variable {X : Cx} {Y : Wd}
def tupI : T → Option (List Int)
  | .tup ts => intsOf ts
  | _ => none
def rowT' (n : List Int) : T := .tup (n.map T.int)
def mSortSet (f : ME) : MA := fun τ h => match f τ h with
  | .ok t h1 => (match listOf h1 t with
    | some us => (match us.mapM tupI with
      | some ns => if rowsOk ns = true then .ok ((sortRows ns).map rowT') h1 else .bad
      | none => .bad)
    | none => .bad)
  | .bad => .bad
end
end TL
namespace TL
open PySem PySem.Spec L2
def pAd (K : PySem.W.Frag) (C f : Str) : Addr := He.ma K (He.ga K C) f
def gAd (K : PySem.W.Frag) (C f : Str) : Addr := match PySem.W.recIn K (pAd K C f) "property" with
  | some (.ref g :: _) => g
  | _ => 0
structure PrD where
  cls : Str
  f : Str
  qual : Str
  params : Arguments
  body : List Stmt
  scope : Scope
abbrev FnV : Type := Option (Str × Str × Arguments × FuncBody × Scope × Addr × List (Str × Addr) × Addr)
def prW (K : PySem.W.Frag) (d : PrD) : FnV := match K.lookup (gAd K d.cls d.f) with
  | some ⟨_, _, .func q, _⟩ => some (q.name, q.qualname, q.params, q.body, q.scope, q.globals, q.closure, q.builtins)
  | _ => none
def PrD.val (d : PrD) : FnV := some (d.f, d.qual, d.params, .stmts d.body, d.scope, mainGlobals, [], builtinsNs)
def gfB (K : PySem.W.Frag) (qual : Str) (g : Addr) : Bool := match K.lookup g with
  | some ⟨_, _, .func q, _⟩ => PySem.W.codeIn K q.code qual && (He.dflB K q.defaults [] && He.kwdB K q.kwdefaults [])
  | _ => false
def firstRef : Option (List Value) → Option Addr
  | some (.ref g :: _) => some g
  | _ => none
def prB (K : PySem.W.Frag) (d : PrD) : Bool :=
  PySem.W.keepIn K (.ref (gAd K d.cls d.f)) && (gfB K d.qual (gAd K d.cls d.f) &&
  (He.eqO (PySem.W.findIn K (.ref (He.ga K d.cls)) d.f) (some (some (.ref (pAd K d.cls d.f)))) &&
  (He.eqO (PySem.W.specialIn K (.ref (pAd K d.cls d.f)) "__get__") (some (some (.builtin "property.__get__"))) &&
  (decide (PySem.W.takesIn K (.ref (pAd K d.cls d.f)) = some true) &&
  decide (firstRef (PySem.W.recIn K (pAd K d.cls d.f) "property") = some (gAd K d.cls d.f))))))
theorem pr_ok {K : PySem.W.Frag} {d : PrD} (e : prW K d = d.val) (b : prB K d = true) : (∃ fd, FunD K d.f d.qual d.params d.body d.scope [] [] (gAd K d.cls d.f) fd) ∧ PropOf K (He.ga K d.cls) d.f (pAd K d.cls d.f) (gAd K d.cls d.f) := by
  unfold prB at b
  simp only [Bool.and_eq_true, decide_eq_true_eq] at b
  obtain ⟨kp, gf, b1, b2, b3, b4⟩ := b
  refine ⟨?_, He.eqO_ok b1, He.eqO_ok b2, b3, ?_⟩
  · obtain ⟨g, hg⟩ : ∃ g, g = gAd K d.cls d.f := ⟨_, rfl⟩
    unfold prW at e
    rw [← hg] at kp gf e ⊢
    unfold gfB at gf
    split at gf
    · rename_i oc od q osl lk
      simp only [lk] at e
      rw [Bool.and_eq_true, Bool.and_eq_true] at gf
      obtain ⟨cd, df, kd⟩ := gf
      rcases q with ⟨x, ql, pa, bo, sc, gl, cl, dV, kV, doc, pm, an, co, ct, bu⟩
      simp only [PrD.val, Option.some.injEq, Prod.mk.injEq] at e
      obtain ⟨rfl, rfl, rfl, rfl, rfl, rfl, rfl, rfl⟩ := e
      exact ⟨_, ⟨oc, od, dV, kV, doc, pm, an, co, ct, osl, rfl, lk, cd, He.dflB_ok df, He.kwdB_ok kd⟩, kp⟩
    · cases gf
  · unfold firstRef at b4
    split at b4
    · rename_i g' rest q
      cases b4
      exact ⟨rest, q⟩
    · cases b4
theorem pr_at {K : PySem.W.Frag} {ps : List PrD} (h : ps.map (prW K) = ps.map PrD.val) {i : Nat} {d : PrD} (e : ps[i]? = some d) : prW K d = d.val := by
  have z := congrArg (fun l => l[i]?) h
  simp only [List.getElem?_map, e, Option.map_some] at z
  exact Option.some.inj z
end TL
namespace TL
open PySem PySem.Spec L2
section
variable {X : Cx} {Y : Wd}
def mgLst (n : Nat) (gs : MGs) : MG := fun t τ h => match t with
  | .lst ts => if ts.length = n then gs ts τ h else .bad
  | _ => .bad
theorem xgLst {es : List Expr} {k : Nat} {gs : MGs} {n : Nat} {pos : Pos} (hc : X.calm = true) (hK : X.K = Y.K) (h : PGs X es (TMGs Y gs)) (hn : (assignEach es X.env).length = n := by rfl) (hst : (assignEach es X.env).findIdx? (·.1) = none := by rfl) : PG X (.Tuple es k pos) (TMG Y (mgLst n gs)) :=
  pg_imp (pg_lst hc h hn hst) fun v σ H Q q => by
    obtain ⟨ρ, τ, h, t, τ', h', G, r, e, to⟩ := q
    unfold mgLst at e
    split at e
    · split at e
      · rename_i ts hl
        obtain ⟨a, vs, rfl, sq, _, rs⟩ := listOf_ok r G.hr (ts := ts) rfl
        exact ⟨a, vs, rfl, by rw [hK]; exact sq, by rw [rs.length]; exact hl, ρ, τ, h, ts, τ', h', G, rs, e, to⟩
      · cases e
    · cases e
end
end TL
namespace TL
open PySem PySem.Spec L2 PyProof.Rows
open AutoSeq1 (wpAny_loadPart')
abbrev enumOb (a : Addr) : Obj := { cls := .type "enumerate", data := .fields #[.none, .bool false, .ref a, rawInt 0, .none, .none] }
theorem pure_any {prog : Program} {w : World} {A : Around} {E : Value → Shared → Prop} {s : Shared} {Q : Bool → Shared → Prop} (b : Bool) (q : ∀ b, Q b s) : wpAny (model prog w) A (pure b) Q E s := wpAny_pure (q b)
theorem new_enum {v : Value} {o : Obj} {H : Heap → Prop} (B : Begins v o H) :
    Meets (Builtin.«enumerate.__new__» ⟨[.type "enumerate", v], []⟩) (fun _ R s => H s.heap ∧ R (.ok (.ret (.ref (s.heap.push o).objs.size))) { s with heap := (s.heap.push o).push (enumOb s.heap.objs.size) }) :=
  .of_wp fun prog w A R s ⟨begun, fin⟩ => by
    have walk : ∀ (A' : Around) (E' : Value → Shared → Prop) (Q' : Value → Shared → Prop), Q' (.ref s.heap.objs.size) { s with heap := s.heap.push o } → wpAny (model prog w) A' (pyIter v) Q' E' s := fun A' E' Q' => B.iter prog w A' E' s Q' begun
    have same := sub_enumerate
    wp_walk using walk
    refine wpAny_stack_any fun _ => pure_any _ fun way => ?_
    cases way
    all_goals
      wp_walk using walk
      exact ⟨_, rfl, fin⟩
theorem call_enum {prog : Program} {w : World} {A : Around} {E : Value → Shared → Prop} {s : Shared} {v : Value} {o : Obj} {H : Heap → Prop} {Q : Value → Shared → Prop} (B : Begins v o H) (begun : H s.heap)
    (fin : ∀ k, k.get? (s.heap.objs.size + 1) = some (enumOb s.heap.objs.size) → k.get? s.heap.objs.size = some o → (∀ b p, s.heap.get? b = some p → k.get? b = some p) → Q (.ref (s.heap.objs.size + 1)) { s with heap := k }) :
    wpAny (model prog w) A (call (.type "enumerate") [v]) Q E s := by
  have one : (s.heap.push o).objs.size = s.heap.objs.size + 1 := Heap.size_push ..
  have top : ((s.heap.push o).push (enumOb s.heap.objs.size)).get? (s.heap.objs.size + 1) = some (enumOb s.heap.objs.size) := one ▸ Heap.get?_push_size (s.heap.push o) (o := enumOb s.heap.objs.size) rfl
  have low : ∀ b p, (s.heap.push o).get? b = some p → ((s.heap.push o).push (enumOb s.heap.objs.size)).get? b = some p := fun b p e => Heap.get?_push_of_some _ e
  refine callType_new F.called_enumerate (by decide) (F.typeCall_enumerate_1 _) (F.newCall_enumerate_1 _) (fun obj => F.args_object_init_2 obj _) F.entry_enumerate_new (new_enum B) ⟨begun, ?_⟩
  refine ⟨⟨_, one.symm ▸ top, rfl⟩, ?_⟩
  exact one.symm ▸ fin _ top (low _ _ (Heap.get?_push_size _ B.free)) fun b p e => low b p (Heap.get?_push_of_some _ e)
def IteT (K : PySem.W.Frag) (t : Addr) (xs : List V) : It where
  go i H := SqT K H t xs ∧ i < xs.length
  yld i H v H' := ∃ T x, v = .ref T ∧ xs[i]? = some x ∧ H T = none ∧ H' = upd H T (.tup [.int (i : Nat), x])
  stop i H := SqT K H t xs ∧ xs.length ≤ i
structure AtT (e it t : Addr) (n i : Nat) (h : Heap) : Prop where
  en : ∃ last, IsEnum h e it (i : Int) last
  ti : h.IsTupleIter it t i
  ne : e ≠ it
  n1 : t ≠ it
  n2 : t ≠ e
  le : i ≤ n
section
variable {P : Program} {w : World} {K : PySem.W.Frag} {e it t : Addr}
theorem AtT.there {n i : Nat} {h : Heap} (a : AtT e it t n i h) {b : Addr} (m : b ∈ [e, it]) : ∃ o, h.get? b = some o ∧ ∀ v, o.data ≠ .cell v := by
  rcases List.mem_cons.mp m with rfl | m
  · obtain ⟨l, q⟩ := a.en
    exact ⟨_, q, nofun⟩
  · obtain rfl := List.mem_singleton.mp m
    obtain ⟨o, q, _, d⟩ := a.ti
    exact ⟨o, q, fun v y => by rw [d] at y; cases y⟩
theorem turn_tupE {es : List Expr} {j : Nat} {tp : Pos} {xs : List V} : Turn P w K (.Tuple es j tp) (IteT K t xs) [e, it] e (AtT e it t xs.length) := by
  refine ⟨List.mem_cons_self, fun i h a b m => a.there m, fun i h h' a k => ⟨let ⟨l, q⟩ := a.en; ⟨l, k e List.mem_cons_self _ q⟩, a.ti.at fun o q => k it (List.mem_cons_of_mem _ List.mem_cons_self) o q, a.ne, a.n1, a.n2, a.le⟩, ?item, ?done, fun A i s Q E a h => let ⟨_, q⟩ := a.en; wpAny_pyIter_enum q h⟩
  case item =>
    rintro X rfl rfl rfl calm i pins s σ H E I own a ⟨sq, lt⟩
    obtain ⟨its, rv, T, _⟩ := I.tuple sq
    obtain ⟨l, q⟩ := a.en
    have sz : i < its.toArray.size := by rw [List.size_toArray, ← rv.length]; exact lt
    refine wpAny_pyNext_enum_itemD (Draws.tuple (A := X.A.in1) (I.ok.hd calm) it t a.n1 its.toArray) q ⟨a.ti, T⟩ sz a.ne (by simp [a.ne, a.n2.symm]) fun v h1 tk rg out st1 pr _ same => ⟨_, rfl, ?_⟩
    refine wpAny_letOwnedTupleGo_enum (s := { s with heap := h1, toks := tk + 1 }) out fun h2 q2 but => ?_
    have old : ∀ b ∈ [e, it], b < s.heap.objs.size := fun b m => let ⟨_, z, _⟩ := a.there m; Heap.lt_size z
    have lone : s.heap.objs.size ≠ e := fun z => Nat.lt_irrefl _ (z ▸ old e List.mem_cons_self)
    obtain ⟨x, hx⟩ : ∃ x, xs[i]? = some x := ⟨_, List.getElem?_eq_getElem lt⟩
    obtain ⟨u, hu, ru⟩ := rv.get hx
    have uv : u = v := by
      have : its.toArray[i]? = some u := by simpa using hu
      rw [this] at rg
      exact Option.some.inj rg
    subst uv
    have J := I.turnedNew (t' := tk + 1) (ch := [e, it]) (fun b o m z => by
      rw [but.2 b fun y => m (y ▸ List.mem_cons_self)]
      exact same b o (fun y => m (y ▸ List.mem_cons_self)) (fun y => m (y ▸ List.mem_cons_of_mem _ List.mem_cons_self)) z) own (Nat.le_refl _) (pair_ok (H := H) (i := i) ru ((but.2 _ lone).trans pr))
    refine ⟨.ref s.heap.objs.size, _, J, rfl, ⟨_, x, rfl, hx, I.hok.fresh (Nat.le_refl _), rfl⟩, ⟨⟨u, q2⟩, st1.1.at fun o z => (but.2 it a.ne.symm).trans z, a.ne, a.n1, a.n2, lt⟩, fun b m => (upd_ne (Nat.ne_of_lt (old b m))).trans (own b m).1⟩
  case done =>
    rintro X rfl rfl rfl calm i pins s σ H E I own a ⟨sq, ge⟩
    obtain ⟨its, rv, T, _⟩ := I.tuple sq
    obtain ⟨l, q⟩ := a.en
    have o := own it (List.mem_cons_of_mem _ List.mem_cons_self)
    have full : i = its.toArray.size := by rw [List.size_toArray, ← rv.length]; exact Nat.le_antisymm a.le ge
    have ti := a.ti
    rw [full] at ti
    exact wpAny_pyNext_enum_endD (Draws.tuple (A := X.A.in1) (I.ok.hd calm) it t a.n1 its.toArray) q ⟨ti, T⟩ fun h1 but => ⟨rfl, I.turned (t' := s.toks) (fun b ob m z => but b ob m z) o.1 o.2.1 o.2.2.2.1 o.2.2.2.2.1 o.2.2.2.2.2⟩
end
section
variable {X : Cx} {Y : Wd}
def iEnumTup (K : PySem.W.Frag) (ta : TA) : TI := fun σ H R => ta σ H fun vs H1 => ∃ t xs, vs = [.ref t] ∧ SqT K H1 t xs ∧ R (IteT K t xs) H1
theorem pi_enumTup {e : Expr} {ta : TA} {p pos tpos : Pos} {es : List Expr} {j : Nat} (hg : Gl X "enumerate") (hm : X.mg "enumerate" = none) (ha : PA X [e] ta) (hs : starEach [e] X.env = [(false, eval e X.env)] := by rfl) :
    PI X (.Tuple es j tpos) (.Call (.Name "enumerate" p) [e] [] pos) (iEnumTup X.K ta) := by
  constructor
  intro pins s σ H R I h
  have arg := ha.run pos pins s σ H _ I h
  refine Call_ (ld_blt I hg hm boot_enumerate (PyProof.Rows.callWith_type1 (thn arg ?_) hs rfl))
  rintro us s1 ⟨_, H1, I1, r, t, xs, rfl, sq, q⟩
  rw [Vals.ref1 r]
  obtain ⟨its, rv, T, _⟩ := I1.tuple sq
  obtain ⟨ob, eo, _⟩ := T
  have young := Heap.lt_size eo
  refine call_enum (begins_tuple t its.toArray) ⟨ob, eo, by assumption⟩ fun h1 he at_ more => wpAny_pyIter_enum (show IsEnum h1 (s1.heap.objs.size + 1) s1.heap.objs.size 0 .none from he) ⟨_, [s1.heap.objs.size + 1, s1.heap.objs.size], _, _, H1, rfl, I1.kept (t' := s1.toks) more, turn_tupE (t := t) (xs := xs), ⟨⟨.none, he⟩, ⟨_, at_, rfl, rfl⟩, Nat.succ_ne_self _, Nat.ne_of_lt young, Nat.ne_of_lt (Nat.lt_succ_of_lt young), Nat.zero_le _⟩, fun b m => ?_, q⟩
  have le : s1.heap.objs.size ≤ b := by
    rcases List.mem_cons.mp m with y | y
    · exact y ▸ Nat.le_succ _
    · exact Nat.le_of_eq (List.mem_singleton.mp y).symm
  exact I1.fpOk le (I1.hok.fresh le)
def iEnumTM (g : MA) : MI := fun τ h => match g τ h with
  | .ok [.tup ts] h1 => .ok (fun _ => some (enumT ts)) h1
  | _ => .bad
theorem wk_enumTup {ts : List T} {xs : List V} {t : Addr} {ρ : Rh} {H : Hp} (la : TupAt Y ρ H t xs) (rs : Rps Y ρ H ts xs) : Wk Y (IteT Y.K t xs) (fun _ => some (enumT ts)) ρ H := by
  have len : (enumT ts).length = xs.length := by rw [rs.length]; simp [enumT]
  constructor
  · rintro ρ1 H1 h us i u ev hr ⟨⟩ ei
    unfold enumT at ei
    rw [List.getElem?_mapIdx] at ei
    obtain ⟨z, q, rfl⟩ := Option.map_eq_some_iff.mp ei
    obtain ⟨x, hx, rx⟩ := (rs.ev ev).get q
    refine ⟨⟨(la.ev ev).sq, (List.getElem?_eq_some_iff.mp hx).1⟩, fun v H' y => ?_⟩
    obtain ⟨p, x', rfl, hx', fresh, rfl⟩ := y
    rw [hx] at hx'
    cases hx'
    exact pair_new hr (.int _) rx fresh
  · rintro ρ1 H1 h us i ev hr ⟨⟩ hl
    rw [len] at hl
    exact ⟨(la.ev ev).sq, hl⟩
theorem xiEnumT {e : Expr} {g : MA} {p pos tpos : Pos} {elts : List Expr} {kk : Nat} (hK : X.K = Y.K) (hg : Gl X "enumerate") (hm : X.mg "enumerate" = none) (ha : PA X [e] (TMA Y g)) (hs : starEach [e] X.env = [(false, eval e X.env)] := by rfl) :
    PI X (.Tuple elts kk tpos) (.Call (.Name "enumerate" p) [e] [] pos) (TMI Y (iEnumTM g)) := pi_imp (pi_enumTup hg hm ha hs) fun σ H R q => by
  obtain ⟨ρ, τ, h, rd, h', G, e, to⟩ := q
  unfold iEnumTM at e
  split at e
  · rename_i ts h1 e1
    cases e
    refine ⟨ρ, τ, h, _, _, G, e1, ⟨fun ρ1 H1 vs ev hr r => ?_⟩⟩
    obtain ⟨v, rfl, rv⟩ := rps_one r
    cases rv with
    | tup la rs =>
      rw [hK]
      exact ⟨_, _, rfl, la.sq, to ρ1 H1 _ ev hr (wk_enumTup la rs)⟩
  · cases e
def bFdvW := bI (fun _ j => decide (0 < j) && decide (j.natAbs.log2 < 9000)) fun i j => i / j
theorem ot_fdvW : OT Y (rI CDivW fun i j => .int (i / j)) bFdvW := ot_I _ fun i j h => by rw [Bool.and_eq_true] at h; exact ⟨of_decide_eq_true h.1, of_decide_eq_true h.2⟩
end
end TL
namespace K33
open PySem L2 TL
end K33
namespace K58
open K33
open PySem L2 TL
def kv_SIZES : List (Str × T) := [("own", (.int (4))), ("pairs", (.int (4))), ("lacks", (.int (5))), ("weight", (.int (7))), ("forced", (.int (4))), ("makes", (.int (5))), ("holds", (.int (5))), ("held", (.int (3))), ("free", (.int (4)))]
def s_law_bag : MS := (sSeq (sSet 2 (eIf (bTest (eOp bLt (eVar 1) (eCall fLen (aCons (eVar 0) aNil)))) (eOp bIx (eVar 0) (eVar 1)) (eOp bAdd (eOp bMul (eK (.int 6151)) (eVar 1)) (eK (.int 98317)))))
  (sSeq (sFor (iSeqC (eIf (bTest (eOp bGe (eVar 1) (eCall fLen (aCons (eVar 0) aNil)))) (eSl (eVar 0) oNo (oSome (eK (.int 3)))) (eL (aLim aNil)))) (mgName 3) (sSet 2 (eOp bMod (eCall fInt (aCons (eOp bAdd (eOp bMul (eVar 2) (eK (.int 37))) (eVar 3)) aNil)) (eK (.int 2147483587)))))
  (sRet (eH (aLim (aCons (eOp bMod (eCall fInt (aCons (eVar 2) aNil)) (eK (.int 2147483587))) (aCons (eIf (bOr (bTest (eOp bLt (eVar 2) (eK (.int 0)))) (bTest (eOp bGe (eVar 2) (eOp bPow (eK (.int 10)) (eK (.int 18)))))) (eCall fAbs (aCons (eVar 2) aNil)) (eK (.int 0))) (aCons (eK (.int 0)) aNil))))))))
def m_law_bag : List T → VH → Res T := defM 4 2 s_law_bag
def s_is_whole : MS := (sRet (eAnd (eIsi (.b "int") (eVar 0)) (eNot (eIsi (.b "bool") (eVar 0)))))
def m_is_whole : List T → VH → Res T := defM 1 1 s_is_whole
def s_law_take : MS := (sSeq (sAsg (eOp bAdd (eOp bIx (eVar 0) (eK (.int 2))) (eK (.int 1))) (mgSub bSetL (eVar 0) (eK (.int 2))))
  (sSeq (sSet 2 (eCall fInt (aCons (eOp bIx (eVar 0) (eK (.int 0))) aNil)))
  (sSeq (sSet 3 (eOp bFdv (eVar 2) (eK (.int 4093))))
  (sSeq (sAsg (eOp bMod (eCall fInt (aCons (eOp bAdd (eOp bAdd (eOp bAdd (eOp bMul (eVar 2) (eK (.int 39373))) (eOp bMul (eVar 3) (eVar 3))) (eOp bMul (eK (.int 92821)) (eOp bIx (eVar 0) (eK (.int 2))))) (eK (.int 5))) aNil)) (eK (.int 2147483587))) (mgSub bSetL (eVar 0) (eK (.int 0))))
  (sSeq (sIf (bTest (eOp bGt (eOp bIx (eVar 0) (eK (.int 1))) (eK (.int 0)))) (sSeq (sAsg (eCall fDivmod (aCons (eOp bIx (eVar 0) (eK (.int 1))) (aCons (eVar 1) aNil))) (mgTup 2 (mgsCons (mgSub bSetL (eVar 0) (eK (.int 1))) (mgsCons (mgName 4) mgsNil))))
  (sRet (eVar 4))) sNil)
  (sRet (eOp bMod (eCall fInt (aCons (eOp bFdv (eOp bIx (eVar 0) (eK (.int 0))) (eK (.int 512))) aNil)) (eVar 1))))))))
def m_law_take : List T → VH → Res T := defM 5 2 s_law_take
def s_law_of : MS := (sRet (eOp bIx (eVar 1) (eCall m_law_take (aCons (eVar 0) (aCons (eCall fLen (aCons (eVar 1) aNil)) aNil)))))
def m_law_of : List T → VH → Res T := defM 2 2 s_law_of
end K58
namespace K13
open PySem L2 TL
def s_number_in : MS := (sSeq (sIf (bOr (bTest (eOp bEq (eVar 0) (eK (.str "")))) (bOr (bNot (bTest (eCall fAll (aCons (eL (mLc (iSeqC (eVar 0)) [2] (mgName 2) bYes (eOp bIn (eVar 2) (eK (.str "0123456789"))))) aNil)))) (bAnd (bTest (eOp bGt (eCall fLen (aCons (eVar 0) aNil)) (eK (.int 1)))) (bTest (eOp bEq (eOp bIx (eVar 0) (eK (.int 0))) (eK (.str "0"))))))) (sRet (eK .non)) sNil)
  (sRet (eIf (bAnd (bTest (eOp bLt (eCall fLen (aCons (eVar 0) aNil)) (eK (.int 9)))) (bTest (eOp bLe (eCall fInt (aCons (eVar 0) aNil)) (eVar 1)))) (eCall fInt (aCons (eVar 0) aNil)) (eK .non))))
def m_number_in : List T → VH → Res T := defM 3 2 s_number_in
def s_line_in : MS := (sSeq (sSet 2 (eL (mLc (iSeqC (eMt "str" mSplit (eVar 0) (aCons (eK (.str " ")) aNil))) [3] (mgName 3) bYes (eCall m_number_in (aCons (eVar 3) (aCons (eOp bSub (eVar 1) (eK (.int 1))) aNil))))))
  (sSeq (sIf (bOr (bTest (eOp bIn (eK .non) (eVar 2))) (bTest (eCall fAny (aCons (eL (mLc (iZipM (aCons (eVar 2) (aCons (eSl (eVar 2) (oSome (eK (.int 1))) oNo) aNil))) [4, 5] (mgTup 2 (mgsCons (mgName 4) (mgsCons (mgName 5) mgsNil))) bYes (eOp bGe (eVar 4) (eVar 5)))) aNil)))) (sRet (eK .non)) sNil)
  (sRet (eCall fTuple (aCons (eVar 2) aNil)))))
def m_line_in : List T → VH → Res T := defM 6 2 s_line_in
def s_lines_in : MS := (sSeq (sIf (bTest (eOp bEq (eVar 0) (eK (.str "")))) (sRet (eL (aLim aNil))) sNil)
  (sSeq (sIf (bTest (eOp bNe (eOp bIx (eVar 0) (eK (.int 0))) (eK (.str " ")))) (sRet (eK .non)) sNil)
  (sSeq (sSet 2 (eL (mLc (iSeqC (eMt "str" mSplit (eSl (eVar 0) (oSome (eK (.int 1))) oNo) (aCons (eK (.str ", ")) aNil))) [3] (mgName 3) bYes (eCall m_line_in (aCons (eVar 3) (aCons (eVar 1) aNil))))))
  (sSeq (sIf (bOr (bTest (eOp bIn (eK .non) (eVar 2))) (bTest (eOp bGt (eCall fLen (aCons (eVar 2) aNil)) (eK (.int 30))))) (sRet (eK .non)) sNil)
  (sRet (eIf (bTest (eCall fAny (aCons (eL (mLc (iZipM (aCons (eVar 2) (aCons (eSl (eVar 2) (oSome (eK (.int 1))) oNo) aNil))) [4, 5] (mgTup 2 (mgsCons (mgName 4) (mgsCons (mgName 5) mgsNil))) bYes (eOp bGe (eVar 4) (eVar 5)))) aNil))) (eK .non) (eVar 2)))))))
def m_lines_in : List T → VH → Res T := defM 6 2 s_lines_in
def s_board_in : MS := (sSeq (sIf (bOr (bNot (bTest (eIsi (.b "str") (eVar 0)))) (bTest (eOp bNe (eMt "str" mCount (eVar 0) (aCons (eK (.str ":")) aNil)) (eK (.int 1))))) (sRet (eK .non)) sNil)
  (sSeq (sAsg (eMt "str" mSplit (eVar 0) (aCons (eK (.str ":")) aNil)) (mgLst 2 (mgsCons (mgName 1) (mgsCons (mgName 2) mgsNil))))
  (sSeq (sSet 3 (eCall m_number_in (aCons (eVar 1) (aCons (eK (.int 30)) aNil))))
  (sSeq (sSet 4 (eIf (bAnd (bTest (eOp bIsn (eVar 3) (eK .non))) (bTest (eOp bGt (eVar 3) (eK (.int 0))))) (eCall m_lines_in (aCons (eVar 2) (aCons (eVar 3) aNil))) (eK .non)))
  (sRet (eIf (bTest (eOp bIs (eVar 4) (eK .non))) (eK .non) (eTup (aCons (eVar 3) (aCons (eVar 4) aNil)))))))))
def m_board_in : List T → VH → Res T := defM 5 1 s_board_in
def s_Board___init__ : MS := (sSeq (sSet 2 (eCall m_board_in (aCons (eVar 1) aNil)))
  (sSeq (sIf (bTest (eOp bIs (eVar 2) (eK .non))) sBad sNil)
  (sSeq (sAsg (eVar 1) (mgFld 0 0 (eVar 0)))
  (sAsg (eVar 2) (mgTup 2 (mgsCons (mgFld 0 1 (eVar 0)) (mgsCons (mgFld 0 2 (eVar 0)) mgsNil)))))))
def m_Board___init__ : List T → VH → Res T := defM 3 2 s_Board___init__
def s_Board_size : MS := (sRet (eFld 0 1 (eVar 0)))
def m_Board_size : List T → VH → Res T := defM 1 1 s_Board_size
def s_check_board : MS := (sIf (bNot (bTest (eIsi (.o 0) (eVar 0)))) sBad sNil)
def m_check_board : List T → VH → Res T := defM 1 1 s_check_board
def s_is_integer : MS := (sRet (eAnd (eIsi (.b "int") (eVar 0)) (eNot (eIsi (.b "bool") (eVar 0)))))
def m_is_integer : List T → VH → Res T := defM 1 1 s_is_integer
def s_is_between : MS := (sRet (eAnd (eCall m_is_integer (aCons (eVar 0) aNil)) (eChain bLe bLe (eVar 1) (eVar 0) (eVar 2))))
def m_is_between : List T → VH → Res T := defM 3 3 s_is_between
def s_check_cells : MS := (sSeq (sIf (bNot (bTest (eIsi (.b "tuple") (eVar 0)))) sBad sNil)
  (sFor (iEnumTM (aCons (eVar 0) aNil)) (mgTup 2 (mgsCons (mgName 3) (mgsCons (mgName 4) mgsNil))) (sIf (bOr (bNot (bTest (eCall m_is_between (aCons (eVar 4) (aCons (eK (.int 0)) (aCons (eOp bSub (eVar 1) (eK (.int 1))) aNil)))))) (bOr (bAnd (bTest (eOp bGt (eVar 3) (eK (.int 0)))) (bTest (eOp bLe (eVar 4) (eOp bIx (eVar 0) (eOp bSub (eVar 3) (eK (.int 1))))))) (bTest (eOp bIn (eVar 4) (eVar 2))))) sBad sNil)))
def m_check_cells : List T → VH → Res T := defM 5 3 s_check_cells
def s_Stand___init__ : MS := (sSeq (sExpr (eCall m_check_board (aCons (eVar 1) aNil)))
  (sSeq (sExpr (eCall m_check_cells (aCons (eVar 2) (aCons (eProp 0 m_Board_size (eVar 1)) (aCons (eTup aNil) aNil)))))
  (sSeq (sExpr (eCall m_check_cells (aCons (eVar 3) (aCons (eProp 0 m_Board_size (eVar 1)) (aCons (eVar 2) aNil)))))
  (sAsg (eTup (aCons (eVar 1) (aCons (eVar 2) (aCons (eVar 3) aNil)))) (mgTup 3 (mgsCons (mgFld 1 0 (eVar 0)) (mgsCons (mgFld 1 1 (eVar 0)) (mgsCons (mgFld 1 2 (eVar 0)) mgsNil))))))))
def m_Stand___init__ : List T → VH → Res T := defM 4 4 s_Stand___init__
def s_Stand_free : MS := (sRet (eCall fTuple (aCons (eL (mLc (iRange1 (aCons (eFld 0 1 (eFld 1 0 (eVar 0))) aNil)) [1] (mgName 1) (bAnd (bTest (eOp bNin (eVar 1) (eFld 1 1 (eVar 0)))) (bTest (eOp bNin (eVar 1) (eFld 1 2 (eVar 0))))) (eVar 1))) aNil)))
def m_Stand_free : List T → VH → Res T := defM 2 1 s_Stand_free
def s_law_draw : MS := (sSeq (sIf (bTest (eOp bGt (eOp bIx (eVar 0) (eK (.int 0))) (eK (.int 0)))) (sSeq (sAsg (eCall fDivmod (aCons (eOp bIx (eVar 0) (eK (.int 0))) (aCons (eVar 1) aNil))) (mgTup 2 (mgsCons (mgSub bSetL (eVar 0) (eK (.int 0))) (mgsCons (mgName 2) mgsNil))))
  (sRet (eVar 2))) sNil)
  (sSeq (sAsg (eOp bMod (eCall fInt (aCons (eOp bAdd (eOp bMul (eOp bIx (eVar 0) (eK (.int 1))) (eK (.int 52021))) (eK (.int 40503))) aNil)) (eK (.int 2147483647))) (mgSub bSetL (eVar 0) (eK (.int 1))))
  (sRet (eOp bMod (eCall fInt (aCons (eOp bFdv (eOp bIx (eVar 0) (eK (.int 1))) (eK (.int 1024))) aNil)) (eVar 1)))))
def m_law_draw : List T → VH → Res T := defM 3 2 s_law_draw
def s_law_rows : MS := (sSeq (sSet 4 (eH (aLim aNil)))
  (sSeq (sFor (iRange1 (aCons (eCall m_law_draw (aCons (eVar 0) (aCons (eOp bAdd (eVar 2) (eK (.int 1))) aNil))) aNil)) (mgName 5) (sSeq (sAsg (eTup (aCons (eOp bAdd (eK (.int 1)) (eCall m_law_draw (aCons (eVar 0) (aCons (eCall fMin2 (aCons (eVar 3) (aCons (eVar 1) aNil))) aNil)))) (aCons (eH (mRg1 (eVar 1))) aNil))) (mgTup 2 (mgsCons (mgName 6) (mgsCons (mgName 7) mgsNil))))
  (sSeq (sIf (bAnd (bTest (eOp bEq (eVar 6) (eK (.int 1)))) (bTest (eOp bGt (eCall m_law_draw (aCons (eVar 0) (aCons (eK (.int 4)) aNil))) (eK (.int 0))))) (sSet 6 (eCall fMin2 (aCons (eK (.int 2)) (aCons (eVar 1) aNil)))) sNil)
  (sSeq (sSet 8 (eCall fTuple (aCons (eL (mCall fSorted (aCons (eL (mLc (iRange1 (aCons (eVar 6) aNil)) [9] (mgName 9) bYes (eMt "list" mPopAt (eVar 7) (aCons (eCall m_law_draw (aCons (eVar 0) (aCons (eCall fLen (aCons (eVar 7) aNil)) aNil))) aNil)))) aNil))) aNil)))
  (sIf (bTest (eOp bNin (eVar 8) (eVar 4))) (sExpr (eMt "list" mAppend (eVar 4) (aCons (eVar 8) aNil))) sNil)))))
  (sRet (eL (mCall fSorted (aCons (eVar 4) aNil))))))
def m_law_rows : List T → VH → Res T := defM 10 4 s_law_rows
def s_law_board : MS := (sSeq (sPar 1 2 (aCons (eCall m_law_draw (aCons (eVar 0) (aCons (eK (.int 6)) aNil))) (aCons (eOp bAdd (eK (.int 2)) (eCall m_law_draw (aCons (eVar 0) (aCons (eK (.int 8)) aNil)))) aNil)))
  (sSeq (sIf (bTest (eOp bEq (eVar 1) (eK (.int 0)))) (sSeq (sSet 3 (eOp bAdd (eK (.int 2)) (eCall m_law_draw (aCons (eVar 0) (aCons (eK (.int 2)) aNil)))))
  (sSeq (sSet 4 (eL (mLc (iRange1 (aCons (eVar 3) aNil)) [5] (mgName 5) bYes (eCall fTuple (aCons (eL (mLc (iRange1 (aCons (eVar 3) aNil)) [6] (mgName 6) bYes (eOp bAdd (eOp bMul (eVar 3) (eVar 5)) (eVar 6)))) aNil)))))
  (sSeq (sSet 4 (eOp bAdd (eVar 4) (eL (mLc (iRange1 (aCons (eVar 3) aNil)) [5] (mgName 5) bYes (eCall fTuple (aCons (eL (mLc (iRange1 (aCons (eVar 3) aNil)) [6] (mgName 6) bYes (eOp bAdd (eOp bMul (eVar 3) (eVar 6)) (eVar 5)))) aNil))))))
  (sSeq (sSet 4 (eOp bAdd (eVar 4) (eL (aLim (aCons (eCall fTuple (aCons (eL (mLc (iRange1 (aCons (eVar 3) aNil)) [6] (mgName 6) bYes (eOp bAdd (eOp bMul (eVar 3) (eVar 6)) (eVar 6)))) aNil)) aNil)))))
  (sRet (eTup (aCons (eOp bMul (eVar 3) (eVar 3)) (aCons (eL (mSortSet (eSl (eVar 4) oNo (oSome (eOp bSub (eCall fLen (aCons (eVar 4) aNil)) (eCall m_law_draw (aCons (eVar 0) (aCons (eK (.int 4)) aNil)))))))) aNil)))))))) sNil)
  (sSeq (sIf (bTest (eOp bEq (eVar 1) (eK (.int 1)))) (sSeq (sSet 7 (eOp bAdd (eK (.int 2)) (eCall m_law_draw (aCons (eVar 0) (aCons (eK (.int 2)) aNil)))))
  (sRet (eTup (aCons (eVar 2) (aCons (eL (mLc (iRange1 (aCons (eOp bAdd (eOp bSub (eVar 2) (eVar 7)) (eK (.int 1))) aNil)) [5] (mgName 5) bYes (eCall fTuple (aCons (eL (mRg2 (eVar 5) (eOp bAdd (eVar 5) (eVar 7)))) aNil)))) aNil))))) sNil)
  (sRet (eTup (aCons (eVar 2) (aCons (eCall m_law_rows (aCons (eVar 0) (aCons (eVar 2) (aCons (eK (.int 7)) (aCons (eIf (bTest (eOp bLt (eVar 1) (eK (.int 4)))) (eK (.int 5)) (eK (.int 3))) aNil))))) aNil)))))))
def m_law_board : List T → VH → Res T := defM 8 1 s_law_board
def s_law_rests : MS := (sSeq (sSet 3 (eH (aLim aNil)))
  (sSeq (sFor (iEnumM (aCons (eVar 0) aNil)) (mgTup 2 (mgsCons (mgName 4) (mgsCons (mgName 5) mgsNil))) (sIf (bTest (eOp bEq (eL (mLc (iSeqC (eVar 5)) [6] (mgName 6) (bTest (eOp bIn (eVar 6) (eVar 2))) (eVar 6))) (eL (aLim aNil)))) (sExpr (eMt "list" mAppend (eVar 3) (aCons (eTup (aCons (eVar 4) (aCons (eCall fTuple (aCons (eL (mLc (iSeqC (eVar 5)) [6] (mgName 6) (bTest (eOp bNin (eVar 6) (eVar 1))) (eVar 6))) aNil)) aNil))) aNil))) sNil))
  (sRet (eVar 3))))
def m_law_rests : List T → VH → Res T := defM 7 3 s_law_rests
def s_law_word_of : MS := (sSeq (sSet 2 (eL (mLc (iSeqC (eVar 1)) [3] (mgName 3) bYes (eMt "str" mJoin (eK (.str " ")) (aCons (eL (mLc (iSeqC (eVar 3)) [4] (mgName 4) bYes (eCall fStr (aCons (eVar 4) aNil)))) aNil)))))
  (sRet (eOp bAdd (eOp bAdd (eOp bAdd (eCall fStr (aCons (eVar 0) aNil)) (eK (.str ":"))) (eIf (bTest (eOp bNe (eVar 2) (eL (aLim aNil)))) (eK (.str " ")) (eK (.str "")))) (eMt "str" mJoin (eK (.str ", ")) (aCons (eVar 2) aNil)))))
def m_law_word_of : List T → VH → Res T := defM 5 2 s_law_word_of
def s_is_live : MS := (sRet (eNot (eCall fAny (aCons (eL (mLc (iSeqC (eVar 0)) [2] (mgName 2) bYes (eOp bIn (eVar 2) (eVar 1)))) aNil))))
def m_is_live : List T → VH → Res T := defM 3 2 s_is_live
def s_rest_of : MS := (sRet (eCall fTuple (aCons (eL (mLc (iSeqC (eVar 0)) [2] (mgName 2) (bTest (eOp bNin (eVar 2) (eVar 1))) (eVar 2))) aNil)))
def m_rest_of : List T → VH → Res T := defM 3 2 s_rest_of
def s_Stand_rests : MS := (sRet (eCall fTuple (aCons (eL (mLc (iSeqC (eFld 0 2 (eFld 1 0 (eVar 0)))) [1] (mgName 1) (bTest (eCall m_is_live (aCons (eVar 1) (aCons (eFld 1 2 (eVar 0)) aNil)))) (eCall m_rest_of (aCons (eVar 1) (aCons (eFld 1 1 (eVar 0)) aNil))))) aNil)))
def m_Stand_rests : List T → VH → Res T := defM 2 1 s_Stand_rests
def s_check_free : MS := (sIf (bOr (bNot (bTest (eCall m_is_between (aCons (eVar 1) (aCons (eK (.int 0)) (aCons (eOp bSub (eFld 0 1 (eFld 1 0 (eVar 0))) (eK (.int 1))) aNil)))))) (bOr (bTest (eOp bIn (eVar 1) (eFld 1 1 (eVar 0)))) (bTest (eOp bIn (eVar 1) (eFld 1 2 (eVar 0)))))) sBad sNil)
def m_check_free : List T → VH → Res T := defM 2 2 s_check_free
def s_check_many : MS := (sIf (bNot (bTest (eCall m_is_between (aCons (eVar 0) (aCons (eK (.int 1)) (aCons (eK (.int 9)) aNil)))))) sBad sNil)
def m_check_many : List T → VH → Res T := defM 1 1 s_check_many
def s_check_stand : MS := (sIf (bNot (bTest (eIsi (.o 1) (eVar 0)))) sBad sNil)
def m_check_stand : List T → VH → Res T := defM 1 1 s_check_stand
def s_divisor : MS := (sSeq (whileL (bTest (eOp bGt (eVar 1) (eK (.int 0)))) (sPar 0 1 (aCons (eVar 1) (aCons (eOp bMod (eVar 0) (eVar 1)) aNil))) 1000)
  (sRet (eVar 0)))
def m_divisor : List T → VH → Res T := defM 2 2 s_divisor
def s_reduced : MS := (sSeq (sSet 1 (eCall m_divisor (aCons (eOp bIx (eVar 0) (eK (.int 0))) (aCons (eOp bIx (eVar 0) (eK (.int 1))) aNil))))
  (sRet (eTup (aCons (eOp bFdvW (eOp bIx (eVar 0) (eK (.int 0))) (eVar 1)) (aCons (eOp bFdvW (eOp bIx (eVar 0) (eK (.int 1))) (eVar 1)) aNil)))))
def m_reduced : List T → VH → Res T := defM 2 1 s_reduced
def s_power : MS := (sSeq (sSet 2 (eK (.int 1)))
  (sSeq (sFor (iRange1 (aCons (eVar 1) aNil)) (mgName 3) (sSet 2 (eOp bMul (eVar 2) (eVar 0))))
  (sRet (eVar 2))))
def m_power : List T → VH → Res T := defM 4 2 s_power
def s_weight_of : MS := (sRet (eTup (aCons (eCall fSum (aCons (eL (mLc (iSeqC (eVar 0)) [3] (mgName 3) bYes (eCall m_power (aCons (eOp bAdd (eVar 1) (eK (.int 1))) (aCons (eOp bSub (eVar 2) (eCall fLen (aCons (eVar 3) aNil))) aNil))))) aNil)) (aCons (eCall m_power (aCons (eOp bAdd (eVar 1) (eK (.int 1))) (aCons (eVar 2) aNil))) aNil))))
def m_weight_of : List T → VH → Res T := defM 4 3 s_weight_of
def s_check_mover : MS := (sIf (bOr (bNot (bTest (eIsi (.b "str") (eVar 0)))) (bTest (eOp bNin (eVar 0) (eTup (aCons (eK (.str "first")) (aCons (eK (.str "second")) aNil)))))) sBad sNil)
def m_check_mover : List T → VH → Res T := defM 1 1 s_check_mover
def s_weight : MS := (sSeq (sExpr (eCall m_check_stand (aCons (eVar 0) aNil)))
  (sSeq (sExpr (eCall m_check_many (aCons (eVar 1) aNil)))
  (sRet (eCall m_reduced (aCons (eCall m_weight_of (aCons (eProp 1 m_Stand_rests (eVar 0)) (aCons (eVar 1) (aCons (eCall fLen (aCons (eProp 1 m_Stand_free (eVar 0)) aNil)) aNil)))) aNil)))))
def m_weight : List T → VH → Res T := defM 2 2 s_weight
def s_behind : MS := (sSeq (sIf (bTest (eOp bEq (eVar 1) (eK (.str "first")))) (sRet (eCall (cutM (makeM 1 m_Stand___init__)) (aCons (eFld 1 0 (eVar 0)) (aCons (eCall fTuple (aCons (eL (mCall fSorted (aCons (eL (aLim (aStar (eFld 1 1 (eVar 0)) (aCons (eVar 2) aNil)))) aNil))) aNil)) (aCons (eFld 1 2 (eVar 0)) aNil))))) sNil)
  (sRet (eCall (cutM (makeM 1 m_Stand___init__)) (aCons (eFld 1 0 (eVar 0)) (aCons (eFld 1 1 (eVar 0)) (aCons (eCall fTuple (aCons (eL (mCall fSorted (aCons (eL (aLim (aStar (eFld 1 2 (eVar 0)) (aCons (eVar 2) aNil)))) aNil))) aNil)) aNil))))))
def m_behind : List T → VH → Res T := defM 3 3 s_behind
end K13
namespace TL
open PySem PySem.Spec L2
section
variable {X : Cx} {Y : Wd}
def bEqO (c : Nat) (neg : Bool) (m : List T → VH → Res T) (a b : T) (h : VH) : Res T := match getI h a, tyOf h b with
  | some (c', _), some _ => if c' = c then (match m [a, b] h with
    | .ok (.bl r) h1 => .ok (.bl (neg != r)) h1
    | _ => .bad) else .bad
  | _, _ => .bad
end
end TL
namespace TL
open PySem PySem.Spec L2
section
variable {X : Cx} {Y : Wd}
def fOwn1 (c : Nat) (m : List T → VH → Res T) (ts : List T) (h : VH) : Res T := match ts with
  | [t] => (match getI h t with
    | some (c', _) => if c' = c then (match m [t] h with
      | .ok (.str z) h1 => .ok (.str z) h1
      | _ => .bad) else .bad
    | none => .bad)
  | _ => .bad
def fStrS (ts : List T) (h : VH) : Res T := match ts with
  | [.str z] => .ok (.str z) h
  | _ => .bad
def eFmt (f : ME) : ME := fun τ h => match f τ h with
  | .ok (.str y) h1 => .ok (.str y) h1
  | .ok (.int i) h1 => if i.natAbs.log2 < 1920 ∧ (Str.ofString (toString i)).length ≤ 1000000 then .ok (.str (toString i)) h1 else .bad
  | _ => .bad
def runJ : List ME → Str → TS_ → VH → Res T
  | [], acc, _, h => .ok (.str acc) h
  | f :: fs, acc, τ, h => match f τ h with
    | .ok (.str y) h1 => if acc.length + y.length ≤ 1000000 then runJ fs (acc ++ y) τ h1 else .bad
    | _ => .bad
def eJoin (fs : List ME) : ME := fun τ h => runJ fs Str.empty τ h
end
end TL
namespace TL
open PySem PySem.Spec L2
section
variable {X : Cx} {Y : Wd}
def eMeth (c : Nat) (mm : List T → VH → Res T) (f : ME) (g : MA) : ME := fun τ h => match f τ h with
  | .ok o h1 => (match getI h1 o with
    | some (c', _) => if c' = c then (match g τ h1 with
      | .ok ts h2 => mm (o :: ts) h2
      | .bad => .bad) else .bad
    | none => .bad)
  | .bad => .bad
theorem lookup_none {m : Str} : ∀ {vfs : List (Str × V)} {n : Nat} {fn : List Str}, vfs.map (·.1) = fn.take n → m ∉ fn → vfs.lookup m = none
  | [], _, _, _, _ => rfl
  | (k, v) :: vfs, n, fn, e, hn => by
    cases fn with
    | nil => simp at e
    | cons a fn =>
      cases n with
      | zero => simp at e
      | succ n =>
        simp only [List.map_cons, List.take_succ_cons, List.cons.injEq] at e
        rw [List.mem_cons, not_or] at hn
        have ne : (m == k) = false := by
          rw [W.beq_decide]
          exact decide_eq_false fun z => hn.1 (z.trans e.1)
        rw [List.lookup_cons, ne]
        exact lookup_none e.2 hn.2
theorem tm_meth {c : Nat} {C : Addr} {nm : Str} {mm : List T → VH → Res T} {f : ME} {g : MA} {σ : St} {H : Hp} {Q : VK} (hc : Y.cm c = some C) (hn : nm ∉ Y.fn c) (q : TM Y (eMeth c mm f g) σ H Q) :
    TM Y f σ H fun x H1 => ∃ (a dx : Addr) (fs : List (Str × V)), x = .ref a ∧ H1 a = some (.ins C dx fs) ∧ fs.lookup nm = none ∧ TMA Y g σ H1 fun vs H2 => spM Y mm (x :: vs) H2 Q E0 := by
  obtain ⟨ρ, τ, h, t, h', G, e, to⟩ := q
  unfold eMeth at e
  cases e1 : f τ h with
  | bad => simp only [e1] at e; cases e
  | ok o h1 =>
    simp only [e1] at e
    split at e
    · rename_i c' fs eo
      split at e
      · rename_i ec
        subst ec
        split at e
        · rename_i ts h2 e2
          refine ⟨ρ, τ, h, o, h1, G, e1, ⟨fun ρ1 H1 v ev hr r => ?_⟩⟩
          obtain ⟨a, C', dx, vfs, rfl, hc', ha, hm, rs⟩ := getI_ok r hr eo
          rw [hc] at hc'
          cases hc'
          exact ⟨a, dx, vfs, rfl, ha, lookup_none hm hn, ρ1, τ, h1, ts, h2, G.ev ev hr, e2, ⟨fun ρ2 H2 vs ev2 hr2 rs2 => ⟨ρ2, o :: ts, h2, t, h', .cons (r.ev ev2.toEvR) rs2, hr2, e, ⟨fun ρ' H' v' ev' hr' r' => to.to ρ' H' v' (ev.trans (ev2.trans ev')) hr' r'⟩⟩⟩⟩
        · cases e
      · cases e
    · cases e
theorem xMeth0 {pl : Sem Bool} {c k : Nat} {C f : Addr} {fd : FuncData} {ps : List Str} {mm : List T → VH → Res T} {o : Expr} {nm : Str} {t : ME} {apos pos : Pos} (hK : X.K = Y.K) (hc : Y.cm c = some C) (hn : nm ∉ Y.fn c) (cl : Cls Y.K C) (hm : Meth Y.K C nm f) (F : FnOk X.prog X.w X.K X.mg X.base CX0 k f fd ps (spM Y mm)) (hr : Room k X.A) (hb : Binds X.K fd ps [])
    (ho : PE X o (TM Y t))
    (ht : eval (.Call (.Attribute o nm apos) [] [] pos) X.env = (do
      let ov ← eval o X.env
      standAt apos.atName
      let (f, first) ← holding [ov] (getMethod ov nm pl)
      callWith pos f first (backTo pos (starEach [] X.env)) (backToKw pos (keywordEach [] X.env))) := by rfl) :
    PE X (.Call (.Attribute o nm apos) [] [] pos) (TM Y (eMeth c mm t aNil)) := pe_imp (pe_meth0 ho (hK ▸ cl) (hK ▸ hm) F hr hb .nil pass0 ht) fun σ H Q q => by
  obtain ⟨ρ, τ, h, u, h1, G, e1, to⟩ := tm_meth hc hn q
  refine ⟨ρ, τ, h, u, h1, G, e1, ⟨fun ρ1 H1 v ev hr r => ?_⟩⟩
  obtain ⟨a, dx, fs, ex, ea, el, z⟩ := to.to ρ1 H1 v ev hr r
  refine ⟨a, dx, fs, ex, ea, el, ?_⟩
  obtain ⟨ρ2, τ2, h2, ts, h3, G2, e2, to2⟩ := z
  cases e2
  exact to2.to ρ2 H1 [] .refl G2.hr .nil
end
end TL
namespace TL
open PySem
end TL
namespace TL
open PySem PySem.Spec L2
section
variable {X : Cx} {Y : Wd}
def fBoolO (c : Nat) (ts : List T) (h : VH) : Res T := match ts with
  | [t] => (match getI h t with
    | some (c', _) => if c' = c then .ok (.bl true) h else .bad
    | none => .bad)
  | _ => .bad
end
end TL
namespace TL
open PySem PySem.Spec PySem.Calls PySem.W PyProof PyProof.Rows
end TL
namespace TL
open PySem PySem.Spec L2
open PySem.W (alike AllAlike Sortable dataLe EachIs)
section
variable {X : Cx} {Y : Wd}
def fSortedS (ts : List T) (h : VH) : Res (List T) := match ts with
  | [t] => (match seqOf h t with
    | some us => (match us.mapM (T.dat h 10) with
      | some ds => if sortOk ds = true then .ok (sortT us ds) h else .bad
      | none => .bad)
    | none => .bad)
  | _ => .bad
end
end TL
namespace K06
open K13
open PySem L2 TL
def s_Board_text : MS := (sRet (eFld 0 0 (eVar 0)))
def m_Board_text : List T → VH → Res T := defM 1 1 s_Board_text
def s_Board___eq__ : MS := (sRet (eAnd (eIsi (.o 0) (eVar 1)) (eOp bEq (eFld 0 0 (eVar 0)) (eProp 0 m_Board_text (eVar 1)))))
def m_Board___eq__ : List T → VH → Res T := defM 2 2 s_Board___eq__
def s_Stand_board : MS := (sRet (eFld 1 0 (eVar 0)))
def m_Stand_board : List T → VH → Res T := defM 1 1 s_Stand_board
def s_Stand_both : MS := (sRet (eTup (aCons (eFld 1 1 (eVar 0)) (aCons (eFld 1 2 (eVar 0)) aNil))))
def m_Stand_both : List T → VH → Res T := defM 1 1 s_Stand_both
def s_Stand_first : MS := (sRet (eFld 1 1 (eVar 0)))
def m_Stand_first : List T → VH → Res T := defM 1 1 s_Stand_first
def s_Stand_second : MS := (sRet (eFld 1 2 (eVar 0)))
def m_Stand_second : List T → VH → Res T := defM 1 1 s_Stand_second
def s_Stand___eq__ : MS := (sRet (eAnd (eIsi (.o 1) (eVar 1)) (eAnd (eOp (bEqO 0 false m_Board___eq__) (eFld 1 0 (eVar 0)) (eProp 1 m_Stand_board (eVar 1))) (eOp bEq (eMeth 1 m_Stand_both (eVar 0) aNil) (eTup (aCons (eProp 1 m_Stand_first (eVar 1)) (aCons (eProp 1 m_Stand_second (eVar 1)) aNil)))))))
def m_Stand___eq__ : List T → VH → Res T := defM 2 2 s_Stand___eq__
def s_Stand_taken : MS := (sSeq (sExpr (eCall m_check_mover (aCons (eVar 1) aNil)))
  (sSeq (sExpr (eCall m_check_free (aCons (eVar 0) (aCons (eVar 2) aNil))))
  (sRet (eCall m_behind (aCons (eVar 0) (aCons (eVar 1) (aCons (eVar 2) aNil)))))))
def m_Stand_taken : List T → VH → Res T := defM 3 3 s_Stand_taken
def s_Board___str__ : MS := (sRet (eCall fStrS (aCons (eFld 0 0 (eVar 0)) aNil)))
def m_Board___str__ : List T → VH → Res T := defM 1 1 s_Board___str__
def s_Stand___repr__ : MS := (sRet (eJoin [(eK (.str "Stand with ")), (eFmt (eOp bSub (eOp bSub (eFld 0 1 (eFld 1 0 (eVar 0))) (eCall fLen (aCons (eFld 1 1 (eVar 0)) aNil))) (eCall fLen (aCons (eFld 1 2 (eVar 0)) aNil)))), (eK (.str " free cells"))]))
def m_Stand___repr__ : List T → VH → Res T := defM 1 1 s_Stand___repr__
def s_Stand_is_made : MS := (sRet (eCall fAny (aCons (eL (mLc (iSeqC (eFld 0 2 (eFld 1 0 (eVar 0)))) [1] (mgName 1) bYes (eAnd (eCall m_is_live (aCons (eVar 1) (aCons (eFld 1 2 (eVar 0)) aNil))) (eOp bEq (eCall m_rest_of (aCons (eVar 1) (aCons (eFld 1 1 (eVar 0)) aNil))) (eTup aNil))))) aNil)))
def m_Stand_is_made : List T → VH → Res T := defM 2 1 s_Stand_is_made
def s_Stand_live : MS := (sRet (eCall fTuple (aCons (eL (mLc (iEnumM (aCons (eFld 0 2 (eFld 1 0 (eVar 0))) aNil)) [1, 2] (mgTup 2 (mgsCons (mgName 1) (mgsCons (mgName 2) mgsNil))) (bTest (eCall m_is_live (aCons (eVar 2) (aCons (eFld 1 2 (eVar 0)) aNil)))) (eVar 1))) aNil)))
def m_Stand_live : List T → VH → Res T := defM 3 1 s_Stand_live
def s_law_is : MS := (sSeq (sSet 5 (eCall fTuple (aCons (eL (mLc (iRange1 (aCons (eVar 1) aNil)) [6] (mgName 6) (bAnd (bTest (eOp bNin (eVar 6) (eVar 3))) (bTest (eOp bNin (eVar 6) (eVar 4)))) (eVar 6))) aNil)))
  (sSeq (sSet 7 (eCall m_law_rests (aCons (eVar 2) (aCons (eVar 3) (aCons (eVar 4) aNil)))))
  (sSeq (sSet 8 (eL (aLim (aCons (eCall (fOwn1 0 m_Board___str__) (aCons (eProp 1 m_Stand_board (eVar 0)) aNil)) (aCons (eProp 1 m_Stand_first (eVar 0)) (aCons (eProp 1 m_Stand_second (eVar 0)) (aCons (eProp 1 m_Stand_free (eVar 0)) (aCons (eProp 1 m_Stand_live (eVar 0)) (aCons (eProp 1 m_Stand_rests (eVar 0)) (aCons (eProp 1 m_Stand_is_made (eVar 0)) (aCons (eCall (fOwn1 1 m_Stand___repr__) (aCons (eVar 0) aNil)) aNil)))))))))))
  (sSeq (sSet 9 (eL (aLim (aCons (eCall m_law_word_of (aCons (eVar 1) (aCons (eVar 2) aNil))) (aCons (eVar 3) (aCons (eVar 4) (aCons (eVar 5) (aCons (eCall fTuple (aCons (eL (mLc (iSeqC (eVar 7)) [10] (mgName 10) bYes (eOp bIx (eVar 10) (eK (.int 0))))) aNil)) aNil))))))))
  (sSeq (sSet 9 (eOp bAdd (eVar 9) (eL (aLim (aCons (eCall fTuple (aCons (eL (mLc (iSeqC (eVar 7)) [10] (mgName 10) bYes (eOp bIx (eVar 10) (eK (.int 1))))) aNil)) (aCons (eOp bIn (eTup aNil) (eL (mLc (iSeqC (eVar 7)) [10] (mgName 10) bYes (eOp bIx (eVar 10) (eK (.int 1)))))) aNil))))))
  (sRet (eOp bEq (eCall fRepr (aCons (eOp bAdd (eVar 8) (eL (aLim (aCons (eCall (fBoolO 1) (aCons (eVar 0) aNil)) aNil)))) aNil)) (eCall fRepr (aCons (eOp bAdd (eVar 9) (eL (aLim (aCons (eOp bAdd (eOp bAdd (eK (.str "Stand with ")) (eCall fStr (aCons (eCall fLen (aCons (eVar 5) aNil)) aNil))) (eK (.str " free cells"))) (aCons (eK (.bl true)) aNil))))) aNil)))))))))
def m_law_is : List T → VH → Res T := defM 11 5 s_law_is
def s_law_pick : MS := (sRet (eOp bIx (eVar 1) (eCall m_law_draw (aCons (eVar 0) (aCons (eCall fLen (aCons (eVar 1) aNil)) aNil)))))
def m_law_pick : List T → VH → Res T := defM 2 2 s_law_pick
end K06
namespace TL
open PySem PySem.Spec L2
end TL
namespace TL
open PySem PySem.Spec L2 PyProof.Rows
abbrev cells3 (N : Nat) : List Addr := [N + 5, N + 3, N + 4, N, N + 1, N + 2]
structure At3 (N a b c n i : Nat) (h : Heap) : Prop where
  z : IsZip h (N + 5) (N + 3) (N + 4) .none
  ti : IsTupOf3 h (N + 3) (.ref N) (.ref (N + 1)) (.ref (N + 2))
  tout : ∃ u v w, IsTupOf3 h (N + 4) u v w
  p : h.IsListIter N a i
  q : h.IsListIter (N + 1) b i
  r : h.IsListIter (N + 2) c i
  le : i ≤ n
theorem At3.there {N a b c n i : Nat} {h : Heap} (s : At3 N a b c n i h) {k : Addr} (m : k ∈ cells3 N) : ∃ o, h.get? k = some o ∧ ∀ v, o.data ≠ .cell v := by
  have it : ∀ {k l : Addr}, h.IsListIter k l i → ∃ o, h.get? k = some o ∧ ∀ v, o.data ≠ .cell v := fun ⟨o, e, _, d⟩ => ⟨o, e, fun v y => by rw [d] at y; cases y⟩
  simp only [List.mem_cons, List.not_mem_nil, or_false] at m
  rcases m with rfl | rfl | rfl | rfl | rfl | rfl
  · exact ⟨_, s.z, nofun⟩
  · exact ⟨_, s.ti, nofun⟩
  · obtain ⟨u, v, w, e⟩ := s.tout
    exact ⟨_, e, nofun⟩
  · exact it s.p
  · exact it s.q
  · exact it s.r
end TL
namespace TL
open PySem PySem.Spec L2
end TL
namespace TL
open PySem PySem.Spec L2
end TL
namespace TL
open PySem PySem.Spec L2
end TL
namespace TL
open PySem PySem.Spec PySem.Calls PySem.W PyProof PyProof.Rows
end TL
namespace TL
open PySem PySem.Spec L2
open PySem.W (dataLe EachIs)
end TL
namespace TL
open PySem PySem.Spec L2
def exNm : List (Str × List Str) := [("InvalidText", ["given"]), ("InvalidNumber", ["given"]), ("InvalidName", ["given"]), ("InvalidIndex", ["given"]), ("InvalidClaim", ["given"]), ("InvalidCell", ["given"]), ("InvalidMover", ["given"]), ("UnknownName", ["given"]),
  ("NotABoard", ["given"]), ("NotAStand", ["given"]), ("NotAPattern", ["given"]), ("NotAMatch", ["given"]), ("InvalidCells", ["index"]), ("InvalidPairs", ["index"]), ("NotMutual", ["place"]), ("TooMany", ["number"]), ("IsOver", []), ("Broken", ["index", "told"]), ("InUse", ["index"]), ("NothingToUndo", [])]
def exC (K : PySem.W.Frag) (c : Nat) : Option Addr := (exNm[c]?).map fun q => He.ga K q.1
def exFn (c : Nat) : List Str := match exNm[c]? with
  | some q => q.2
  | none => []
inductive Oux where
  | o (x : Out)
  | xc (c : Nat) (fs : List T) (τ : TS_) (h : VH)
abbrev MX := TS_ → VH → Oux
def XcTo (Y : Wd) (ρ : Rh) (H : Hp) (c : Nat) (fs : List T) (h : VH) (R : Rh → Hp → Value → Option Addr → Prop) : Prop :=
  ∀ (ρ' : Rh) (H' : Hp) (C : Addr) (d : Option Addr) (vfs : List (Str × V)), Ev ρ H ρ' H' → HR Y ρ' H' h → exC Y.K c = some C → XdAt ρ' H' d vfs → vfs.map (·.1) = (exFn c).take fs.length → Rps Y ρ' H' fs (vfs.map (·.2)) → R ρ' H' (.ref C) d
theorem XcTo.ev {Y : Wd} {ρ ρ1 : Rh} {H H1 : Hp} {c : Nat} {fs : List T} {h : VH} {R : Rh → Hp → Value → Option Addr → Prop} (e : Ev ρ H ρ1 H1) (g : XcTo Y ρ H c fs h R) : XcTo Y ρ1 H1 c fs h R :=
  fun ρ' H' C d vfs e1 => g ρ' H' C d vfs (e.trans e1)
theorem XcTo.imp {Y : Wd} {ρ : Rh} {H : Hp} {c : Nat} {fs : List T} {h : VH} {R R' : Rh → Hp → Value → Option Addr → Prop} (g : XcTo Y ρ H c fs h R) (i : ∀ ρ' H' cls d, Ev ρ H ρ' H' → HR Y ρ' H' h → R ρ' H' cls d → R' ρ' H' cls d) : XcTo Y ρ H c fs h R' :=
  fun ρ' H' C d vfs e hr e1 e2 e3 e4 => i _ _ _ _ e hr (g ρ' H' C d vfs e hr e1 e2 e3 e4)
def OutToX (Y : Wd) (W : WX) (ρ : Rh) (H : Hp) (o : Oux) (D : Ends) : Prop := match o with
  | .o x => OutTo Y ρ H x D
  | .xc c fs τ h => XcTo Y ρ H c fs h fun ρ' H' cls d => ∀ σ', Sl Y ρ' H' τ σ' → W cls d σ' H'
theorem OutToX.ev {Y : Wd} {W : WX} {ρ ρ1 : Rh} {H H1 : Hp} {o : Oux} {D : Ends} (e : Ev ρ H ρ1 H1) (g : OutToX Y W ρ H o D) : OutToX Y W ρ1 H1 o D := by
  cases o with
  | o x => exact OutTo.ev e g
  | xc c fs τ h => exact XcTo.ev (R := fun ρ' H' cls d => ∀ σ', Sl Y ρ' H' τ σ' → W cls d σ' H') e g
end TL
namespace TL
open PySem PySem.Spec PyProof.Rows L2
end TL
namespace TL
open PySem PySem.Spec PyProof.Rows L2
end TL
namespace TL
open PySem PySem.Spec PyProof.Rows L2
end TL
namespace TL
open PySem PySem.Spec PyProof.Rows L2
end TL
namespace TL
open PySem PySem.Spec L2
end TL
namespace TL
open PySem PySem.Spec PySem.Calls PySem.W PyProof PyProof.Rows
abbrev encI (is : List Int) : PyData := .tuple (is.map .int)
theorem reads_ints {h : Heap} : ∀ {its : List Value} {is : List Int}, L2.Vals (is.map L2.V.int) its → ReadsAll h its (is.map .int) []
  | its, [], r => by
    rw [List.map_nil] at r
    cases r
    exact .nil
  | its, i :: is, r => by
    rw [List.map_cons] at r
    cases r with
    | cons a b =>
      obtain ⟨t, rfl⟩ := a
      exact .cons (as := []) (bs := []) (.int i t) (reads_ints b)
theorem reads_row {h : Heap} {b : Addr} {its : List Value} {is : List Int} (e : IsTup h b its.toArray) (r : L2.Vals (is.map L2.V.int) its) : Reads h (.ref b) (encI is) [] := by
  obtain ⟨o, ho, hc, n, hd⟩ := e
  exact .tuple ho hc hd (by simpa using reads_ints r)
theorem depth_row (is : List Int) : (encI is).depth ≤ 1 := by
  show (PyData.tuple (is.map .int)).depth ≤ 1
  rw [PyData.depth, depth_ints]
  exact Nat.le_refl _
end TL
namespace TL
open PySem PySem.Spec L2
section
variable {X : Cx} {Y : Wd}
def eDNewT : ME := fun τ h => .ok (.ref h.length) (h ++ [.dcT []])
theorem xDNewT {pos : Pos} : PE X (.Dict [] [] pos) (TM Y eDNewT) := pe_imp pe_dnewT fun σ H Q q => by
  obtain ⟨ρ, τ, h, u, h', G, e, to⟩ := q
  cases e
  intro p hp
  refine to.to (ρ.push p) _ _ (Ev.newρ hp) (G.hr.push hp ⟨[], upd_same, rfl, .nil⟩) (.ref ?_)
  show (ρ.ix ++ [p])[h.length]? = _
  rw [List.getElem?_append_right (by rw [G.hr.len]; exact Nat.le_refl _), G.hr.len]
  simp
def TMT (Y : Wd) (f : MA) : TE := fun σ H Q => ∃ ρ τ h ts h', Go Y ρ H τ σ h ∧ f τ h = .ok ts h' ∧
  ∀ ρ' H' D vs, Ev ρ H ρ' H' → HR Y ρ' H' h' → H' D = some (.tup vs) → Rps Y ρ' H' ts vs → Q (.ref D) H'
def CTT (Y : Wd) (r : List V → Hp → VK → Prop) (b : List T → VH → Res (List T)) : Prop := ∀ ρ H ts vs h us h' Q, Rps Y ρ H ts vs → HR Y ρ H h → b ts h = .ok us h' →
  (∀ ρ' H' D ws, Ev ρ H ρ' H' → HR Y ρ' H' h' → H' D = some (.tup ws) → Rps Y ρ' H' us ws → Q (.ref D) H') → r vs H Q
theorem tm_callT {r : List V → Hp → VK → Prop} {b : List T → VH → Res (List T)} (ct : CTT Y r b) {g : MA} {σ : St} {H : Hp} {Q : VK} (q : TMT Y (mCall b g) σ H Q) : TMA Y g σ H fun vs H1 => r vs H1 Q := by
  obtain ⟨ρ, τ, h, us, h', G, e, to⟩ := q
  unfold mCall at e
  cases e1 : g τ h with
  | bad => simp only [e1] at e; cases e
  | ok ts h1 =>
    simp only [e1] at e
    exact ⟨ρ, τ, h, ts, h1, G, e1, ⟨fun ρ1 H1 vs ev hr rs => ct ρ1 H1 ts vs h1 us h' Q rs hr e fun ρ' H' D ws ev' => to ρ' H' D ws (ev.trans ev')⟩⟩
def fTupF (ts : List T) (h : VH) : Res (List T) := match ts with
  | [.lst us] => .ok us h
  | _ => .bad
theorem ctt_tuple : CTT Y (rTupleOf Y.K) fTupF := fun ρ H ts vs h us h' Q r hr e to => by
  unfold fTupF at e
  split at e
  · cases e
    obtain ⟨v, rfl, rv⟩ := rps_one r
    cases rv with
    | lst la rs => exact ⟨_, _, rfl, .inl ⟨la.sq, fun l hl => to ρ _ l _ (Ev.new hl) (hr.new hl) upd_same (rs.ev (Ev.new hl).toEvR)⟩⟩
  · cases e
theorem xTupF {e : Expr} {g : MA} {p pos : Pos} (hK : X.K = Y.K) (hg : Gl X "tuple") (hm : X.mg "tuple" = none) (hc : CallR X (.type "tuple") (rTupleOf X.K)) (ha : PA X [e] (TMA Y g))
    (he : starEach [e] X.env = (false, eval e X.env) :: starEach [] X.env := by rfl) (hpl : (backTo pos (starEach [] X.env)).any (·.1) = false := by rfl) :
    PE X (.Call (.Name "tuple" p) [e] [] pos) (TMT Y (mCall fTupF g)) := pe_imp (pe_callTy hc hg hm bt_tuple ha (by decide) (by decide) he hpl) fun σ H Q q => hK ▸ tm_callT ctt_tuple q
def putG {κ β : Type} [DecidableEq κ] (kvs : List (κ × β)) (k : κ) (v : β) : List (κ × β) :=
  if (kvs.any fun q => decide (q.1 = k)) = true then kvs.map (fun q => if q.1 = k then (q.1, v) else q) else kvs ++ [(k, v)]
inductive DTR (Y : Wd) (ρ : Rh) (H : Hp) : List (List Key × T) → List (List Key × V) → Prop
  | nil : DTR Y ρ H [] []
  | cons {k : List Key} {t : T} {v : V} {kvs : List (List Key × T)} {vk : List (List Key × V)} : Rp Y ρ H t v → DTR Y ρ H kvs vk → DTR Y ρ H ((k, t) :: kvs) ((k, v) :: vk)
theorem DTR.of {ρ : Rh} {H : Hp} : ∀ {kvs : List (List Key × T)} {vk : List (List Key × V)}, vk.map (·.1) = kvs.map (·.1) → Rps Y ρ H (kvs.map (·.2)) (vk.map (·.2)) → DTR Y ρ H kvs vk
  | [], [], _, _ => .nil
  | [], _ :: _, e, _ => by simp at e
  | _ :: _, [], e, _ => by simp at e
  | (k, t) :: kvs, (k2, v) :: vk, e, r => by
    simp only [List.map_cons, List.cons.injEq] at e
    obtain ⟨rfl, e⟩ := e
    cases r with
    | cons a b => exact .cons a (.of e b)
theorem DTR.to {ρ : Rh} {H : Hp} {kvs : List (List Key × T)} {vk : List (List Key × V)} (d : DTR Y ρ H kvs vk) : vk.map (·.1) = kvs.map (·.1) ∧ Rps Y ρ H (kvs.map (·.2)) (vk.map (·.2)) := by
  induction d with
  | nil => exact ⟨rfl, .nil⟩
  | cons a _ ih => exact ⟨by simp [ih.1], .cons a ih.2⟩
theorem DTR.any {ρ : Rh} {H : Hp} {kvs : List (List Key × T)} {vk : List (List Key × V)} (d : DTR Y ρ H kvs vk) (j : List Key) : (vk.any fun q => decide (q.1 = j)) = kvs.any fun q => decide (q.1 = j) := by
  induction d with
  | nil => rfl
  | cons _ _ ih => simp only [List.any_cons, ih]
theorem DTR.snoc {ρ : Rh} {H : Hp} {kvs : List (List Key × T)} {vk : List (List Key × V)} (d : DTR Y ρ H kvs vk) {k : List Key} {t : T} {v : V} (b : Rp Y ρ H t v) : DTR Y ρ H (kvs ++ [(k, t)]) (vk ++ [(k, v)]) := by
  induction d with
  | nil => exact .cons b .nil
  | cons a _ ih => exact .cons a ih
theorem DTR.swap {ρ : Rh} {H : Hp} {kvs : List (List Key × T)} {vk : List (List Key × V)} (d : DTR Y ρ H kvs vk) {k : List Key} {t : T} {v : V} (b : Rp Y ρ H t v) :
    DTR Y ρ H (kvs.map fun q => if q.1 = k then (q.1, t) else q) (vk.map fun q => if q.1 = k then (q.1, v) else q) := by
  induction d with
  | nil => exact .nil
  | @cons k' t' v' kvs vk a d ih =>
    by_cases c : k' = k
    · simp only [List.map_cons, c, if_true]
      exact .cons b ih
    · simp only [List.map_cons, c, if_false]
      exact .cons a ih
theorem DTR.put {ρ : Rh} {H : Hp} {kvs : List (List Key × T)} {vk : List (List Key × V)} (d : DTR Y ρ H kvs vk) {k : List Key} {t : T} {v : V} (b : Rp Y ρ H t v) : DTR Y ρ H (putG kvs k t) (putK vk k v) := by
  unfold putG putK
  rw [d.any k]
  split
  · exact d.swap b
  · exact d.snoc b
theorem DTR.ev {ρ ρ' : Rh} {H H' : Hp} (e : EvR ρ H ρ' H') {kvs : List (List Key × T)} {vk : List (List Key × V)} (d : DTR Y ρ H kvs vk) : DTR Y ρ' H' kvs vk := by
  induction d with
  | nil => exact .nil
  | cons a _ ih => exact .cons (a.ev e) ih
theorem DTR.length {ρ : Rh} {H : Hp} {kvs : List (List Key × T)} {vk : List (List Key × V)} (d : DTR Y ρ H kvs vk) : vk.length = kvs.length := by
  induction d with
  | nil => rfl
  | cons _ _ ih => simp [ih]
theorem keys_mapM {ρ : Rh} {H : Hp} : ∀ {us : List T} {ws : List V} {k : List Key}, Rps Y ρ H us ws → us.mapM keyT = some k → ws = k.map kV
  | [], _, k, r, e => by
    cases r
    simp only [List.mapM_nil, Option.pure_def, Option.some.injEq] at e
    subst e
    rfl
  | u :: us, _, k, r, e => by
    cases r with
    | cons a b =>
      simp only [List.mapM_cons, Option.bind_eq_bind, Option.bind_eq_some_iff, Option.pure_def, Option.some.injEq] at e
      obtain ⟨k1, e1, ks, e2, rfl⟩ := e
      rw [keyT_ok a e1, keys_mapM b e2]
      rfl
def mgPutT (fo : ME) (fk : MA) : MG := fun t τ h => match fo τ h with
  | .ok (.ref n) h1 => (match fk τ h1 with
    | .ok us h2 => (match h2[n]?, us.mapM keyT with
      | some (.dcT kvs), some k => if kvs.length < 16777216 then .ok τ (h2.set n (.dcT (putG kvs k t))) else .bad
      | _, _ => .bad)
    | .bad => .bad)
  | _ => .bad
theorem xgPutT {o i : Expr} {fo : ME} {fk : MA} {pos : Pos} (hu : X.A.units + 1 < cLine) (ho : PE X o (TM Y fo)) (hi : PE X i (TMT Y fk))
    (ha : ∀ v, assign (.Subscript o i pos) X.env v = (do
      let ov ← holding [v] (eval o X.env)
      let iv ← holding [v, ov] (eval i X.env)
      standAt pos
      holding [v, ov, iv] (setItem ov iv v)
      release [v, ov, iv] []) := by intro _; rfl) : PG X (.Subscript o i pos) (TMG Y (mgPutT fo fk)) :=
  pg_imp (pg_sub ho hi (set_dict hu) ha) fun v σ H Q q => by
    obtain ⟨ρ, τ, h, t, τ', h', G, r, e, to⟩ := q
    unfold mgPutT at e
    split at e
    case h_2 => cases e
    rename_i n h1 e1
    split at e
    case h_2 => cases e
    rename_i us h2 e2
    split at e
    case h_2 => cases e
    rename_i kvs k en ek
    split at e
    case isFalse => cases e
    rename_i few
    cases e
    refine ⟨ρ, τ, h, .ref n, h1, G, e1, ⟨fun ρ1 H1 vo ev hr1 ro => ⟨ρ1, τ, h1, us, h2, G.ev ev hr1, e2, fun ρ2 H2 D ws ev2 hr2 hD rs => ?_⟩⟩⟩
    have ro2 := ro.ev ev2.toEvR
    cases ro2 with
    | @ref _ a hx =>
      obtain ⟨vk, hH, hk, hv⟩ := hr2.at_ n _ a en hx
      have d := DTR.of hk hv
      rw [keys_mapM rs ek] at hD
      have wr : Ev ρ2 H2 ρ2 (upd H2 a (.dT (putK vk k v))) := Ev.write (List.mem_of_getElem? hx) (by rw [hH]; exact fun _ _ z => nomatch z)
      have rv := r.ev (ev.trans ev2).toEvR
      refine ⟨a, _, rfl, DPut.t hH hD (by rw [d.length, sizeLine_eq]; exact few), ?_⟩
      have d2 := (d.put (k := k) rv).ev wr.toEvR
      exact to ρ2 _ σ ((ev.trans ev2).trans wr) (hr2.write hx (by rw [hH]; exact fun _ _ z => nomatch z) ⟨_, upd_same, d2.to.1, d2.to.2⟩) (G.sl.ev ((ev.trans ev2).trans wr).toEvR)
def bSetD (o i t : T) (h : VH) : Res Unit := match o with
  | .ref n => (match h[n]?, keyT i with
    | some (.dct kvs), some k => if kvs.length < 16777216 then .ok () (h.set n (.dct (putT kvs k i t))) else .bad
    | _, _ => .bad)
  | _ => .bad
theorem st_setD : ST Y rSetD bSetD := fun ρ H o i t vo vi v h h' Q ro ri rt hr e to => by
  unfold bSetD at e
  split at e
  · rename_i n
    split at e
    · rename_i kvs k en ek
      split at e
      · rename_i few
        cases e
        cases ro with
        | @ref _ a hx =>
          obtain ⟨vk, hH, d⟩ := or_dct (hr.at_ n _ a en hx)
          have ev := keyT_ok ri ek
          subst ev
          have wr : Ev ρ H ρ (upd H a (.dK (putK vk k v))) := Ev.write (List.mem_of_getElem? hx) (by rw [hH]; exact fun _ _ z => nomatch z)
          exact ⟨a, _, rfl, DPut.k hH (by rw [d.length, sizeLine_eq]; exact few), to ρ _ wr (hr.write hx (by rw [hH]; exact fun _ _ z => nomatch z) ((((d.put ri rt).ev wr.toEvR)).or upd_same))⟩
      · cases e
    · cases e
  · cases e
def fListD (ts : List T) (h : VH) : Res (List T) := match ts with
  | [.ref n] => (match h[n]? with
    | some (.dct kvs) => if kvs.length ≤ 16777216 then .ok (kvs.map (·.1)) h else .bad
    | _ => .bad)
  | _ => .bad
theorem ctf_listD : CTF Y rListD fListD := fun ρ H ts vs h us h' Q r hr e to => by
  unfold fListD at e
  split at e
  · rename_i n
    split at e
    · rename_i kvs en
      split at e
      · rename_i few
        cases e
        obtain ⟨v, rfl, rv⟩ := rps_one r
        cases rv with
        | @ref _ a hx =>
          obtain ⟨vk, hH, d⟩ := or_dct (hr.at_ n _ a en hx)
          refine ⟨a, vk, rfl, hH, ?_⟩
          exact lay hr d.keys (by rw [List.length_map, d.length, sizeLine_eq]; exact few) to
      · cases e
    · cases e
  · cases e
end
end TL
namespace TL
open PySem PySem.Spec L2 PyProof.Rows
open PySem.W (dataLe EachIs AllAlike Sortable)
abbrev encZ (z : Addr × List Int) : PyData := encI z.2
def rSortDT : List V → Hp → VK → Prop := fun vs H Q => ∃ (a : Addr) (iss : List (List Int)) (kvs : List (List Key × V)), vs = [V.ref a] ∧ H a = some (.dT kvs) ∧ kvs.map (·.1) = iss.map (List.map Sum.inl) ∧ (∀ is ∈ iss, is ≠ []) ∧
  ∀ zs : List (Addr × List Int), zs.map (·.2) = iss → (∀ z ∈ zs, H z.1 = some (.tup (z.2.map V.int)) ∧ z.2.length ≤ sizeLine) → ∀ p : Addr, H p = none → Q (.ref p) (upd H p (.lst ((zs.mergeSort (dataLe false encZ)).map fun z => V.ref z.1)))
theorem kV_inl (is : List Int) : (is.map Sum.inl).map kV = is.map V.int := by rw [List.map_map]; rfl
def intsKD : List Key → List Int
  | [] => []
  | .inl i :: r => i :: intsKD r
  | .inr _ :: r => intsKD r
theorem intsKD_inl : ∀ is : List Int, intsKD (is.map Sum.inl) = is
  | [] => rfl
  | i :: is => congrArg (i :: ·) (intsKD_inl is)
theorem rows_alike (iss : List (List Int)) : AllAlike (iss.map encI) := AllAlike.of fun a b => by
  show PySem.W.alike (.tuple _) (.tuple _) = true
  simp only [PySem.W.alike]
  exact PySem.W.alike_ints _ _
theorem kt_keys {H : Hp} {kvs : List (List Key × V)} {ks : List (List Key × Addr × Value)} (r : L2.KT H kvs ks) : ks.map (·.1) = kvs.map (·.1) ∧ ∀ x ∈ ks, H x.2.1 = some (.tup (x.1.map kV)) := by
  induction r with
  | nil => exact ⟨rfl, fun x hx => by cases hx⟩
  | cons h _ ih =>
    refine ⟨by simp [ih.1, h.1], fun x hx => ?_⟩
    rcases List.mem_cons.mp hx with rfl | hx
    · rw [← h.1]; exact h.2.1
    · exact ih.2 x hx
theorem each_eq {zs : List (Addr × List Int)} : ∀ {us : List Value}, us = zs.map (fun z => Value.ref z.1) → EachIs (fun u (z : Addr × List Int) => u = Value.ref z.1) us zs := by
  induction zs with
  | nil => intro us e; subst e; exact .nil
  | cons z zs ih => intro us e; subst e; exact .cons rfl (ih rfl)
theorem each_vals {zs : List (Addr × List Int)} : ∀ {us : List Value}, EachIs (fun u (z : Addr × List Int) => u = Value.ref z.1) us zs → Vals (zs.map fun z => V.ref z.1) us := by
  induction zs with
  | nil => intro us e; cases e; exact .nil
  | cons z zs ih =>
    intro us e
    cases e with
    | cons a b => subst a; exact .cons rfl (ih b)
theorem each_mem' {α β : Type} {R R' : α → β → Prop} {us : List α} {zs : List β} (e : EachIs R us zs) (f : ∀ u z, z ∈ zs → R u z → R' u z) : EachIs R' us zs := by
  induction e with
  | nil => exact .nil
  | cons a _ ih => exact .cons (f _ _ List.mem_cons_self a) (ih fun u z hz => f u z (List.mem_cons_of_mem _ hz))
theorem cr_sortedDT {X : Cx} (hc : X.calm = true) (hu : X.A.units + 40 < cLine) : CallR X (.builtin "sorted") rSortDT := by
  intro pins s σ H vs us Q I r h
  obtain ⟨a, iss, kvs, rfl, ha, hk, hne, q⟩ := h
  rw [Vals.ref1 r]
  obtain ⟨z, hs, ks, pr, o, es, ep, ho, hx, hdt, he, hn⟩ := (show ObjOk X.prog X.w H s.heap a (.dT kvs) from I.hok a _ ha)
  have l1 : es.size = ks.length := size_of_entries he
  have l2 : kvs.length = ks.length := Paired.length pr
  obtain ⟨k1, k2⟩ := kt_keys pr
  obtain ⟨zs, hzs⟩ : ∃ zs : List (Addr × List Int), zs = ks.map fun x => (x.2.1, intsKD x.1) := ⟨_, rfl⟩
  have ez : zs.map (·.2) = iss := by
    have e1 : zs.map (·.2) = (ks.map (·.1)).map intsKD := by rw [hzs, List.map_map, List.map_map]; rfl
    rw [e1, k1, hk, List.map_map]
    exact (List.map_congr_left fun is _ => intsKD_inl is).trans (List.map_id _)
  have hz : ∀ y ∈ zs, H y.1 = some (.tup (y.2.map V.int)) ∧ y.2.length ≤ sizeLine := by
    intro y hy
    rw [hzs] at hy
    obtain ⟨x, hx, rfl⟩ := List.mem_map.mp hy
    have m : x.1 ∈ iss.map (List.map Sum.inl) := by rw [← hk, ← k1]; exact List.mem_map.mpr ⟨x, hx, rfl⟩
    obtain ⟨is, _, e⟩ := List.mem_map.mp m
    have hH := k2 x hx
    rw [← e, kV_inl] at hH
    have e2 : intsKD x.1 = is := by rw [← e]; exact intsKD_inl is
    show H x.2.1 = some (.tup ((intsKD x.1).map V.int)) ∧ (intsKD x.1).length ≤ sizeLine
    rw [e2]
    refine ⟨hH, ?_⟩
    obtain ⟨hl, _⟩ := (show ObjOk X.prog X.w H s.heap x.2.1 (.tup (is.map V.int)) from I.hok _ _ hH)
    rw [List.length_map] at hl
    exact hl
  refine Calls.call_function_entry kind_sorted plain_sorted entry_sorted (args_sorted1 _) ?_
  unfold Builtin.«sorted»
  refine wpAny_bind (m := checkCount "sorted" 1 1 _) (wpAny_pure ?_)
  refine wpAny_bind (PySem.W.kdu_collect (A := X.A.in1) (kdl_raw hs hx hdt) (I.ok.hd hc) ho (by omega) fun h' tk acc hkp hacc => ?_)
  have ea : acc.toList = zs.map fun y => Value.ref y.1 := by
    have hl : acc.toList.length = ks.length := by rw [Array.length_toList, hacc.1]; exact l1
    rw [hzs, List.map_map]
    apply List.ext_getElem?
    intro j
    rw [List.getElem?_map]
    cases hj : acc.toList[j]? with
    | none =>
      have h1 := List.getElem?_eq_none_iff.mp hj
      rw [List.getElem?_eq_none (by omega)]
      rfl
    | some v =>
      obtain ⟨en, hen, hv⟩ := hacc.2 j v (by rw [← Array.getElem?_toList]; exact hj)
      have qe := entry_at he j
      rw [hen] at qe
      cases hb : ks[j]? with
      | none =>
        rw [hb] at qe
        exact nomatch (show some en = none from qe)
      | some b =>
        rw [hb] at qe
        have e2 : en = entryOfKey (tupleKind (mixKind X.prog X.w)) b := Option.some.inj qe
        rw [hv, e2]
        rfl
  have I1 : Inv X pins σ H { s with heap := h', toks := tk } := I.kept hkp
  have lz : zs.length = ks.length := by rw [hzs, List.length_map]
  have la : acc.toList.length = zs.length := by rw [ea, List.length_map]
  refine wpAny_bind (wpAny_newList ?_ (by omega))
  have hoL : (h'.push (seqObj "list" acc.toList.toArray 0)).get? h'.objs.size = some (seqObj "list" acc.toList.toArray 0) := Heap.get?_push_size _ rfl
  show wpAny _ _ _ _ _ { s with heap := h'.push (seqObj "list" acc.toList.toArray 0), toks := tk }
  have e := each_eq ea
  have er : EachIs (fun u (y : Addr × List Int) => ∃ as, Reads (h'.push (seqObj "list" acc.toList.toArray 0)) u (encZ y) as ∧ h'.objs.size ∉ as) acc.toList zs := each_mem' e fun u y hy eu => by
    subst eu
    obtain ⟨_, its, rv, ob⟩ := (show ObjOk X.prog X.w H h' y.1 (.tup (y.2.map V.int)) from I1.hok _ _ (hz y hy).1)
    exact ⟨[], PyProof.Rows.Reads.keeps (fun b o e => Heap.get?_push_of_some _ e) (reads_row (by obtain ⟨o, e1, e2, e3⟩ := ob; exact ⟨o, e1, e2, e3⟩) rv), by simp⟩
  have hal : AllAlike (zs.map encZ) := by
    have := rows_alike iss
    rw [← ez, List.map_map] at this
    exact this
  have hso : Sortable (zs.map encZ) := .inl fun d hd => by
    obtain ⟨y, hy, rfl⟩ := List.mem_map.mp hd
    have m : y.2 ∈ iss := by rw [← ez]; exact List.mem_map.mpr ⟨y, hy, rfl⟩
    cases e2 : y.2 with
    | nil => exact absurd e2 (hne _ m)
    | cons i is => exact ⟨.int i, is.map .int, by show encI y.2 = _; rw [e2]; rfl⟩
  refine wpAny_bind (wpAny_holding (PySem.W.list_sort_data (s := { s with heap := h'.push (seqObj "list" acc.toList.toArray 0), toks := tk }) (R := fun u (y : Addr × List Int) => u = Value.ref y.1) (enc := encZ) hoL e er hal hso (by omega) (fun y _ => by have := depth_row y.2; show X.A.in1.units + 1 + (encI y.2).depth < cLine; have : X.A.in1.units = X.A.units + 1 := rfl; omega) fun out lo eo => ?_))
  obtain ⟨e', he'⟩ := sortedHeap_at (vs := acc.toList) (out := out.toArray) hoL
  have hlen : ((zs.mergeSort (dataLe false encZ)).map fun y => V.ref y.1).length ≤ sizeLine := by
    rw [List.length_map, List.length_mergeSort]
    omega
  refine wpAny_pure ⟨_, rfl, .ref h'.objs.size, upd H h'.objs.size (.lst ((zs.mergeSort (dataLe false encZ)).map fun y => V.ref y.1)), I1.laid (t' := tk) (fun b u e => ?_) (Nat.le_refl _)
    (show ObjOk X.prog X.w _ _ _ (.lst ((zs.mergeSort (dataLe false encZ)).map fun y => V.ref y.1)) from ⟨hlen, out, e', each_vals eo, he'⟩), rfl, q zs ez hz _ (I1.hok.fresh (Nat.le_refl _))⟩
  have hb : b < h'.objs.size := Heap.lt_size e
  rw [sortedHeap_old (Nat.ne_of_lt hb) (by rw [size_push']; exact Nat.lt_succ_of_lt hb)]
  exact Heap.get?_push_of_some _ e
section
variable {X : Cx} {Y : Wd}
theorem HR.outTup {ρ : Rh} {H : Hp} {h : VH} (r : HR Y ρ H h) {b : Addr} {xs : List V} (e : H b = some (.tup xs)) : ρ.out b := by
  refine ⟨fun m => ?_, fun m => r.bl b m xs e⟩
  obtain ⟨n, hn, en⟩ := List.getElem_of_mem m
  have hh : n < h.length := by rw [← r.len]; exact hn
  have o := r.at_ n h[n] b (List.getElem?_eq_getElem hh) (by rw [List.getElem?_eq_getElem hn, en])
  cases q : h[n] with
  | lst ts => rw [q] at o; obtain ⟨vs, h1, _⟩ := o; rw [e] at h1; cases h1
  | ins c fs => rw [q] at o; obtain ⟨C, dx, vfs, _, h1, _⟩ := o; rw [e] at h1; cases h1
  | dct kvs => rw [q] at o; obtain ⟨vk, h1, _⟩ := o; rw [e] at h1; cases h1
  | dcT kvs => rw [q] at o; obtain ⟨vk, h1, _⟩ := o; rw [e] at h1; cases h1
  | dcF kvs => rw [q] at o; obtain ⟨z, vk, h1, _⟩ := o; rw [e] at h1; cases h1
  | dcN kvs => rw [q] at o; obtain ⟨ys, h1, _⟩ := o; rw [e] at h1; cases h1
  | tab nm => rw [q] at o; obtain ⟨_, ys, h1, _⟩ := o; rw [e] at h1; cases h1
def intsK : List Key → Option (List Int)
  | [] => some []
  | .inl i :: r => (intsK r).map (i :: ·)
  | .inr _ :: _ => none
theorem intsK_ok : ∀ {k : List Key} {is : List Int}, intsK k = some is → k = is.map Sum.inl
  | [], is, e => by cases e; rfl
  | .inl i :: r, is, e => by
    unfold intsK at e
    rw [Option.map_eq_some_iff] at e
    obtain ⟨js, e1, rfl⟩ := e
    rw [intsK_ok e1]
    rfl
  | .inr _ :: _, _, e => by cases e
def srtI (iss : List (List Int)) : List (List Int) := iss.mergeSort (dataLe false encI)
def rowT (is : List Int) : T := .tup (is.map T.int)
def fSortedDT (ts : List T) (h : VH) : Res (List T) := match ts with
  | [.ref n] => (match h[n]? with
    | some (.dcT kvs) => (match kvs.mapM (fun q => intsK q.1) with
      | some iss => if (iss.all fun is => !is.isEmpty) = true ∧ iss.length ≤ 16777216 then .ok ((srtI iss).map rowT) h else .bad
      | none => .bad)
    | _ => .bad)
  | _ => .bad
theorem intsK_all : ∀ {kvs : List (List Key × T)} {iss : List (List Int)}, kvs.mapM (fun q => intsK q.1) = some iss → kvs.map (·.1) = iss.map (List.map Sum.inl)
  | [], iss, e => by
    simp only [List.mapM_nil, Option.pure_def, Option.some.injEq] at e
    subst e
    rfl
  | q :: kvs, iss, e => by
    simp only [List.mapM_cons, Option.bind_eq_bind, Option.bind_eq_some_iff, Option.pure_def, Option.some.injEq] at e
    obtain ⟨is, e1, js, e2, rfl⟩ := e
    rw [List.map_cons, List.map_cons, intsK_ok e1, intsK_all e2]
theorem rows_rps {ρ : Rh} {H : Hp} : ∀ {zs : List (Addr × List Int)}, (∀ z ∈ zs, ρ.out z.1 ∧ H z.1 = some (.tup (z.2.map V.int)) ∧ z.2.length ≤ sizeLine) → Rps Y ρ H (zs.map fun z => rowT z.2) (zs.map fun z => V.ref z.1)
  | [], _ => .nil
  | z :: zs, f => by
    obtain ⟨h1, h2, h3⟩ := f z List.mem_cons_self
    exact .cons (.tup ⟨by rw [List.length_map]; exact h3, .inl ⟨h1, .inl h2⟩⟩ (ints_rps z.2)) (rows_rps fun y hy => f y (List.mem_cons_of_mem _ hy))
theorem ctf_sortedDT : CTF Y rSortDT fSortedDT := fun ρ H ts vs h us h' Q r hr e to => by
  unfold fSortedDT at e
  split at e
  · rename_i n
    split at e
    · rename_i kvs en
      split at e
      · rename_i iss ei
        split at e
        · rename_i ne
          cases e
          obtain ⟨v, rfl, rv⟩ := rps_one r
          cases rv with
          | @ref _ a hx =>
            obtain ⟨vk, hH, hk, hv⟩ := hr.at_ n _ a en hx
            refine ⟨a, iss, vk, rfl, hH, hk.trans (intsK_all ei), fun is his => ?_, fun zs ez hz p hp => ?_⟩
            · have := List.all_eq_true.mp ne.1 is his
              intro z
              rw [z] at this
              simp at this
            · have e1 : (srtI iss).map rowT = (zs.mergeSort (dataLe false encZ)).map fun z => rowT z.2 := by
                have e2 : srtI iss = (zs.mergeSort (dataLe false encZ)).map (·.2) := by
                  unfold srtI
                  rw [← ez]
                  exact (List.map_mergeSort (r := dataLe false encZ) (s := dataLe false encI) (f := fun z : Addr × List Int => z.2) (l := zs) (fun a _ b _ => rfl)).symm
                rw [e2, List.map_map]
                rfl
              rw [e1] at to
              have fz : ∀ z ∈ zs.mergeSort (dataLe false encZ), ρ.out z.1 ∧ H z.1 = some (.tup (z.2.map V.int)) ∧ z.2.length ≤ sizeLine := fun z hz' => by
                have := hz z (List.mem_mergeSort.mp hz')
                exact ⟨hr.outTup this.1, this.1, this.2⟩
              refine lay hr (rows_rps fz) ?_ to p hp
              have e3 : zs.length = iss.length := by rw [← ez, List.length_map]
              rw [List.length_map, List.length_mergeSort, e3, sizeLine_eq]
              exact ne.2
        · cases e
      · cases e
    · cases e
  · cases e
theorem xSortedDT {k : Nat} {e : Expr} {g : MA} {p pos : Pos} (hc : X.calm = true) (hu : Room k X.A) (hg : Gl X "sorted") (hm : X.mg "sorted" = none) (ha : PA X [e] (TMA Y g))
    (he : starEach [e] X.env = (false, eval e X.env) :: starEach [] X.env := by rfl) (hpl : (backTo pos (starEach [] X.env)).any (·.1) = false := by rfl) :
    PE X (.Call (.Name "sorted" p) [e] [] pos) (TMF Y (mCall fSortedDT g)) := xCallBF ctf_sortedDT (cr_sortedDT hc (by have := room80 hu; omega)) hg hm bt_sorted ha (by decide) (by decide) he hpl
def rMaxD (K : PySem.W.Frag) : List V → V → Hp → VK → Prop := fun vs d H Q => ∃ (a : Addr) (ns : List Int), vs = [V.ref a] ∧ SqL K H a (ns.map V.int) ∧ match ns with
  | [] => Q d H
  | n :: r => Q (.int (r.foldl max n)) H
theorem depth0 : ∀ ns : List Int, PyData.depthAll (ns.map .int) = 0 := PySem.W.depth_ints
theorem pe_maxD {e d : Expr} {t : TA} {td : TE} {p kp pos : Pos} (hc : X.calm = true) (hu : X.A.units + 40 < cLine) (hg : Gl X "max") (hm : X.mg "max" = none) (ha : PA X [e] t) (hd : PE X d td)
    (he : backTo pos (starEach [e] X.env) = (false, eval e X.env) :: backTo pos (starEach [] X.env) := by rfl) (hpl : (backTo pos (starEach [e] X.env)).any (·.1) = false := by rfl) :
    PE X (.Call (.Name "max" p) [e] [⟨some "default", d, kp⟩] pos) (fun σ H Q => t σ H fun vs H1 => td σ H1 fun v H2 => rMaxD X.K vs v H2 Q) := by
  refine ⟨fun pins s σ H Q I h => ?_⟩
  refine wpAny_Call_Name_kw (ld_blt I hg hm bt_max ?_ (by decide) (by decide))
  refine PyProof.Rows.callWith_kw (thn (ha.run pos pins s σ H _ I h) fun us s1 ⟨vs, H1, I1, r1, q1⟩ => ?_) he hpl (by rfl) (by rfl)
  show wpAny _ _ (evalAll [do let v ← eval d X.env; standAt pos; pure v]) _ _ _
  refine wpAny_evalAll_cons (wpAny_bind (thn (hd.run pins s1 σ H1 _ I1 q1) fun u s2 ⟨v, H2, I2, rv, q2⟩ => wpAny_bind (wpAny_standAt (wpAny_pure (wpAny_evalAll_nil ?_)))))
  obtain ⟨a, ns, rfl, hs, q⟩ := q2
  obtain ⟨its, rvs, hl, hz⟩ := I2.list hs
  rw [Vals.ref1 r1]
  refine PySem.W.max_list_default (xs := ns.map .int) (I2.ok.hd hc) hl.isList (reads_ints rvs) ?_ (by rw [depth0]; omega) (fun e0 h' tk hk => ?_) fun y ys i w h' tk bs e1 hw rd hk => ?_
  · refine ⟨fun x hx y hy => ?_, fun x hx => ?_⟩
    · obtain ⟨i, _, rfl⟩ := List.mem_map.mp hx
      obtain ⟨j, _, rfl⟩ := List.mem_map.mp hy
      simp only [PySem.W.alike]
    · obtain ⟨i, _, rfl⟩ := List.mem_map.mp hx
      simp
  · cases ns with
    | cons n r => simp at e0
    | nil => exact ⟨v, H2, I2.kept hk, rv, q⟩
  · cases ns with
    | nil => simp at e1
    | cons n r =>
      simp only [List.map_cons, List.cons.injEq] at e1
      obtain ⟨rfl, rfl⟩ := e1
      rw [PySem.W.maxD_ints] at rd
      cases rd with
      | int _ t => exact ⟨.int _, H2, I2.kept hk, ⟨t, rfl⟩, q⟩
def eMaxD (g : MA) (f : ME) : ME := fun τ h => match g τ h with
  | .ok [t] h1 => (match f τ h1 with
    | .ok d h2 => (match listOf h2 t with
      | some us => (match intsOf us with
        | some [] => .ok d h2
        | some (n :: r) => .ok (.int (r.foldl max n)) h2
        | none => .bad)
      | none => .bad)
    | .bad => .bad)
  | _ => .bad
theorem xMaxD {k : Nat} {e d : Expr} {g : MA} {f : ME} {p kp pos : Pos} (hK : X.K = Y.K) (hc : X.calm = true) (hu : Room k X.A) (hg : Gl X "max") (hm : X.mg "max" = none) (ha : PA X [e] (TMA Y g)) (hd : PE X d (TM Y f))
    (he : backTo pos (starEach [e] X.env) = (false, eval e X.env) :: backTo pos (starEach [] X.env) := by rfl) (hpl : (backTo pos (starEach [e] X.env)).any (·.1) = false := by rfl) :
    PE X (.Call (.Name "max" p) [e] [⟨some "default", d, kp⟩] pos) (TM Y (eMaxD g f)) :=
  pe_imp (pe_maxD hc (by have := room80 hu; omega) hg hm ha hd he hpl) fun σ H Q q => by
    obtain ⟨ρ, τ, h, u, h', G, e, to⟩ := q
    unfold eMaxD at e
    split at e
    case h_2 => cases e
    rename_i t h1 e1
    split at e
    case h_2 => cases e
    rename_i dt h2 e2
    split at e
    case h_2 => cases e
    rename_i us e3
    refine ⟨ρ, τ, h, [t], h1, G, e1, ⟨fun ρ1 H1 vs ev hr rs => ⟨ρ1, τ, h1, dt, h2, G.ev ev hr, e2, ⟨fun ρ2 H2 v ev2 hr2 rv => ?_⟩⟩⟩⟩
    obtain ⟨x, rfl, rx⟩ := rps_one rs
    obtain ⟨a, ws, rfl, hs, hz, rs⟩ := listOf_ok (rx.ev ev2.toEvR) hr2 e3
    split at e
    · rename_i ei
      cases e
      rw [intsOf_ok rs ei] at hs
      exact ⟨a, [], rfl, hK ▸ hs, to.to ρ2 H2 _ (ev.trans ev2) hr2 rv⟩
    · rename_i n r ei
      cases e
      rw [intsOf_ok rs ei] at hs
      exact ⟨a, n :: r, rfl, hK ▸ hs, to.to ρ2 H2 _ (ev.trans ev2) hr2 (.int _)⟩
    · cases e
end
end TL
namespace TL
open PySem PySem.Spec L2 PyProof.Rows
section
variable {X : Cx} {Y : Wd}
theorem xMakeU {c k : Nat} {f C : Addr} {fd : FuncData} {ps : List Str} {m : List T → VH → Res T} {x : Str} {p pos : Pos} {e : Expr} {es : List Expr} {g : MA} (hc : Y.cm c = some C) (M : Mk X.K C f) (F : FnOk X.prog X.w X.K X.mg X.base CX0 k f fd ps (spM Y m)) (hr : Room (k + 1) X.A) (hg : Gl X x) (hm : X.mg x = some (.ref C)) (hb : Binds X.K fd ps [])
    (ha : PA X (e :: es) (TMA Y g)) (hdb : (x == ("__debug__" : Str)) = false := by decide) (he : starEach (e :: es) X.env = (false, eval e X.env) :: starEach es X.env := by rfl) (hpl : (backTo pos (starEach es X.env)).any (·.1) = false := by rfl) :
    PE X (.Call (.Name x p) (e :: es) [] pos) (TM Y (eCall (makeM c m) g)) := pe_imp (pe_make M F hr hg hm hb .nil pass0 ha hdb he hpl) fun σ H Q q => tm_call (ct_make (E := E0) hc) q
end
end TL
namespace TL
open PySem PySem.Spec PySem.Calls PyProof PyProof.Rows PySem.W L2
section
variable {P : Program} {w : World} {A : Around} {E : Value → Shared → Prop} {s : Shared}
abbrev setOb (w : World) : Obj := { cls := .type "set", dict := none, data := .set #[] 0 (.fresh 0 0 (!w.params.followText "set-order")) }
theorem set_built {src : Value} {Q : Value → Shared → Prop} (up : wpAny (model P w) A.in1.in1 (Builtin.«set.__init__» ⟨[.ref s.heap.objs.size, src], []⟩)
    (fun fin s' => match fin with
      | .done f => wants (fun r s₂ => r = .none ∧ Q (.ref s.heap.objs.size) s₂) E (.ok f) s'
      | .again c' => c'.quiet = true ∧ codeAny (model P w) A.in1 c' (wants (fun r s₂ => r = .none ∧ Q (.ref s.heap.objs.size) s₂) E) s')
    (fun e s' => wants (fun r s₂ => r = .none ∧ Q (.ref s.heap.objs.size) s₂) E (.error e) s') { s with heap := s.heap.push (setOb w) }) : wpAny (model P w) A (call (.type "set") [src]) Q E s := by
  obtain ⟨c, tl, hmro⟩ := F.called_set.mro
  have made := F.called_set.made
  have sub := F.called_set.sub
  refine wpAny_call (codeAny_of_tree ?_)
  show wpAny _ _ (callAny (.type "set") _) _ _ _
  refine wpAny_pure ⟨Code.quiet_builtin _ (by decide +kernel), codeAny_builtin F.entry_type_call ?_⟩
  rw [Around.under_plain (weight_type_call_type "set" [src] []) rfl]
  have nt := F.called_set.notType
  have cc := F.called_set.canCreate
  have tc := F.typeCall_set_1 src
  repeat (any_goals (first | assumption | wp_step))
  refine codeAny_mono (code_set_led1 src (E := E) (Q₁ := fun o s₁ => o = .ref s.heap.objs.size ∧ s₁ = { s with heap := s.heap.push (setOb w) }) ⟨rfl, rfl⟩) fun r s₁ hr => ?_
  match r, hr with
  | .error e, hr => exact hr
  | .ok (.ret o), hr =>
    obtain ⟨rfl, rfl⟩ := hr
    have at_ : (s.heap.push (setOb w)).get? s.heap.objs.size = some (setOb w) := Heap.get?_push_size _ rfl
    have ty : Shared.TypeIs { s with heap := s.heap.push (setOb w) } (.ref s.heap.objs.size) "set" := ⟨_, at_, rfl⟩
    have il := F.called_set.init.lookup
    have ib := F.called_set.init.bind (.ref s.heap.objs.size)
    repeat (any_goals (first | assumption | wp_step))
    refine codeAny_mono (codeAny_call_builtin (R := wants (fun r s₂ => r = .none ∧ Q (.ref s.heap.objs.size) s₂) E) F.called_set.init.plain F.entry_set_init (check_set_init_1 ty ?_)) fun r₂ s₂ hr₂ => ?_
    · exact up
    · match r₂, hr₂ with
      | .error e, h2 => exact h2
      | .ok (.ret r), h2 =>
        obtain ⟨rfl, h2⟩ := h2
        repeat (any_goals (first | assumption | wp_step))
set_option maxHeartbeats 3200000 in
theorem set_ints {l : Addr} {its : Array Value} {ns : List Int} {Q : Value → Shared → Prop} (hh : A.handled = none) (hl : s.heap.IsList l its) (hi : IntsAre its.toList ns) (hb : ns.length + 1 < scanBound)
    (h : ∀ (h' : Heap) (tk c : Nat), SetR w h' s.heap.objs.size (fun j => decide (j ∈ ns)) c → c ≤ ns.length → (∀ b o, s.heap.get? b = some o → h'.get? b = some o) → Q (.ref s.heap.objs.size) { s with heap := h', toks := tk }) :
    wpAny (model P w) A (call (.type "set") [.ref l]) Q E s := by
  refine set_built ?_
  have ln : its.size = ns.length := by
    have := IntsAre.length hi
    rwa [Array.length_toList] at this
  have new_ : (s.heap.push (setOb w)).get? s.heap.objs.size = some (setOb w) := Heap.get?_push_size _ rfl
  have L := hl.push (setOb w)
  obtain ⟨⟨cl, di, da, sl⟩, at_, e1, k, e2⟩ := L
  simp only at e1 e2
  subst e1 e2
  have L : (s.heap.push (setOb w)).IsList l its := ⟨_, at_, rfl, k, rfl⟩
  have n1 := F.sub_list_set
  have n2 := F.sub_list_frozenset
  have n3 : (Value.type "list" == Value.type "dict") = false := by decide
  have lS : l < s.heap.objs.size := by
    obtain ⟨o, ho, _⟩ := hl
    exact Heap.lt_size ho
  unfold Builtin.«set.__init__» noKeywords Builtin.Frozenset.updateFrom
  generalize hp : pyIter = PI
  wp_walk
  subst hp
  refine wpAny_pyIter_list L ?_
  refine wpAny_bind (wpAny_runValue ?_)
  have sz : (s.heap.push (setOb w)).objs.size = s.heap.objs.size + 1 := Heap.size_push ..
  refine set_update_ints (Walks.list (A := A.in1.in1.in1) (by simp [hh]) _ l (by rw [sz]; exact Nat.ne_of_lt (Nat.lt_succ_of_lt lS)) its).toS s.heap.objs.size (by rw [sz]; simp only [List.mem_cons, List.not_mem_nil, or_false, not_or]; exact ⟨Nat.ne_of_lt (Nat.lt_succ_self _), Nat.ne_of_gt lS⟩) ns ln hb (fun i v hv => ?_) (its.size - 0) 0 _ (by omega) (Nat.zero_le _)
    ⟨⟨_, Heap.get?_push_size _ rfl, rfl, rfl⟩, L.push _⟩ ⟨0, Nat.le_refl 0, setR_new_at (Heap.get?_push_of_some _ new_)⟩ fun s2 c hm hc hS => ?_
  · have hi' : i < ns.length := by rw [← ln]; exact (Array.getElem?_eq_some_iff.mp hv).1
    obtain ⟨t, e⟩ := IntsAre.int_at hi i v (by rw [Array.getElem?_toList]; exact hv)
    exact ⟨ns[i], t, List.getElem?_eq_getElem hi', by rw [e, List.getD_eq_getElem?_getD, List.getElem?_eq_getElem hi'] <;> rfl⟩
  · obtain ⟨h', g, d, tk, os⟩ := s2
    obtain rfl : g = s.gens := hm.gens
    obtain rfl : d = s.drawn := hm.drawn
    obtain rfl : os = s.os := hm.os
    show wpAny _ _ _ _ _ _
    refine wpAny_pure ?_
    show wpAny _ _ (ret Value.none) _ _ _
    refine wpAny_pure ⟨rfl, h h' tk c hS (by omega) fun b o e => ?_⟩
    have hb0 : b < s.heap.objs.size := Heap.lt_size e
    exact hm.heap b o (by rw [sz]; simp only [List.mem_cons, List.not_mem_nil, or_false, not_or]; exact ⟨Nat.ne_of_lt hb0, Nat.ne_of_lt (Nat.lt_succ_of_lt hb0)⟩) (Heap.get?_push_of_some _ (Heap.get?_push_of_some _ e))
end
section
variable {X : Cx} {Y : Wd}
def rSetI (K : PySem.W.Frag) (w : World) : List V → Hp → VK → Prop := fun xs H Q => ∃ (l : Addr) (ns : List Int), xs = [.ref l] ∧ SqL K H l (ns.map V.int) ∧ ns.length < 64 ∧ ∀ D c, c ≤ ns.length → H D = none → Q (.ref D) (upd H D (SetO w D (fun j => decide (j ∈ ns)) c))
theorem cr_setI (hc : X.calm = true) : CallR X (.type "set") (rSetI X.K X.w) := by
  intro pins s σ H xs us Q I r h
  obtain ⟨l, ns, rfl, hs, few, q⟩ := h
  obtain ⟨its, rv, hl, _⟩ := I.list hs
  rw [Vals.ref1 r]
  refine set_ints (I.ok.hd hc) hl.isList rv.ints (by unfold scanBound; omega) fun h' tk c hS hcl hk => ?_
  exact ⟨.ref _, upd H s.heap.objs.size (SetO X.w s.heap.objs.size (fun j => decide (j ∈ ns)) c), I.laid (t' := tk) hk (Nat.le_refl _) (setO_new hS), rfl, q _ c hcl (I.hok.fresh (Nat.le_refl _))⟩
def dedI : List Int → List Int
  | [] => []
  | x :: r => if x ∈ r then dedI r else x :: dedI r
theorem dedI_mem {x : Int} : ∀ {l : List Int}, x ∈ dedI l ↔ x ∈ l
  | [] => Iff.rfl
  | y :: r => by
    unfold dedI
    split
    · rename_i m
      rw [dedI_mem]
      exact ⟨fun h => List.mem_cons_of_mem _ h, fun h => by rcases List.mem_cons.mp h with rfl | h; exact m; exact h⟩
    · rw [List.mem_cons, List.mem_cons, dedI_mem]
theorem dedI_nodup : ∀ {l : List Int}, (dedI l).Nodup
  | [] => List.nodup_nil
  | y :: r => by
    unfold dedI
    split
    · exact dedI_nodup
    · rename_i m
      rw [List.nodup_cons]
      exact ⟨fun z => m (dedI_mem.mp z), dedI_nodup⟩
theorem dedI_len : ∀ l : List Int, (dedI l).length ≤ l.length
  | [] => Nat.le_refl _
  | x :: l => by
    have := dedI_len l
    unfold dedI
    split <;> simp only [List.length_cons] <;> omega
def setI (ns : List Int) : List Int := (dedI ns).mergeSort fun a b => decide (a ≤ b)
theorem setI_mem {x : Int} {l : List Int} : x ∈ setI l ↔ x ∈ l := by unfold setI; rw [List.mem_mergeSort, dedI_mem]
theorem setI_asc (l : List Int) : (setI l).Pairwise (· < ·) := by
  have p : (setI l).Pairwise fun a b => decide (a ≤ b) = true := List.pairwise_mergeSort (fun a b c h1 h2 => by simp only [decide_eq_true_eq] at *; omega) (fun a b => by simp only [Bool.or_eq_true, decide_eq_true_eq]; omega) _
  have n : (setI l).Nodup := (List.mergeSort_perm _ _).nodup_iff.mpr dedI_nodup
  exact (p.imp₂ (fun a b h1 h2 => by simp only [decide_eq_true_eq] at h1; omega) n)
theorem setI_len (l : List Int) : (setI l).length ≤ l.length := by unfold setI; rw [List.length_mergeSort]; exact dedI_len l
theorem asc_uniq : ∀ {a b : List Int}, a.Pairwise (· < ·) → b.Pairwise (· < ·) → (∀ x, x ∈ a ↔ x ∈ b) → a = b := fun ha hb h => eq_of_strict (fun x => x) ha hb h
def mSortSetI (f : ME) : MA := fun τ h => match f τ h with
  | .ok t h1 => (match listOf h1 t with
    | some us => (match intsOf us with
      | some ns => if ns.length < 64 then .ok ((setI ns).map T.int) h1 else .bad
      | none => .bad)
    | none => .bad)
  | .bad => .bad
theorem xSortSetI {e : Expr} {f : ME} {p p2 pos pos2 : Pos} {k : Nat} (hK : X.K = Y.K) (hc : X.calm = true) (hg : Gl X "sorted") (hm : X.mg "sorted" = none) (hg2 : Gl X "set") (hm2 : X.mg "set" = none) (ha : PE X e (TM Y f))
    (s1 : starEach [e] X.env = (false, eval e X.env) :: starEach [] X.env := by rfl) (s2 : starEach [.Call (.Name "set" p2) [e] [] pos2] X.env = (false, eval (.Call (.Name "set" p2) [e] [] pos2) X.env) :: starEach [] X.env := by rfl) :
    PE X (.Call (.Name "sorted" p) [.Call (.Name "set" p2) [e] [] pos2] [] pos) (TMF Y (mSortSetI f)) :=
  pe_imp (pe_callB (cr_sortedSet hc) hg hm bt_sorted (pa_cons (pe_callTy (cr_setI hc) hg2 hm2 bt_set (pa_cons ha pa_nil s1) (by decide) (by decide) s1) pa_nil s2) (by decide) (by decide) s2) fun σ H Q q => by
    obtain ⟨ρ, τ, h, us', h', G, e, to⟩ := q
    unfold mSortSetI at e
    split at e
    case h_2 => cases e
    rename_i t h1 e1
    split at e
    case h_2 => cases e
    rename_i us e2
    split at e
    case h_2 => cases e
    rename_i ns e3
    split at e
    case isFalse => cases e
    rename_i few
    cases e
    refine ⟨ρ, τ, h, t, _, G, e1, ⟨fun ρ1 H1 v ev hr r => ?_⟩⟩
    obtain ⟨a, ws, rfl, hs, hz, rs⟩ := listOf_ok r hr e2
    rw [intsOf_ok rs e3] at hs
    refine ⟨a, ns, rfl, hK ▸ hs, few, fun D c hc' hD => ⟨D, _, c, rfl, upd_same, by omega, fun ms p pw mem _ hp => ?_⟩⟩
    have e4 : ms = setI ns := asc_uniq pw (setI_asc ns) fun x => by
      rw [mem x, setI_mem]
      simp
    rw [e4]
    have ev2 : Ev ρ1 H1 ρ1 (upd H1 D (SetO X.w D (fun j => decide (j ∈ ns)) c)) := Ev.new hD
    exact lay (hr.new hD) (ints_rps (setI ns)) (by rw [List.length_map, sizeLine_eq]; have := setI_len ns; omega) (fun ρ' H' D' ws ev3 hr3 hD' => to ρ' H' D' ws ((ev.trans ev2).trans ev3) hr3 ((ev.trans ev2).fresh hD')) p hp
end
end TL
namespace TL
open PySem PySem.Spec L2 PyProof.Rows RZ
section
variable {X : Cx} {Y : Wd}
theorem wk_zipT {t u : T} {ts us : List T} {ρ : Rh} {H : Hp} {a b : Addr} (e1 : tupOf t = some ts) (e2 : tupOf u = some us) (r1 : Rp Y ρ H t (.ref a)) (r2 : Rp Y ρ H u (.ref b)) : Wk Y (ItzT Y.K a b) (fun _ => some (zipT ts us)) ρ H := by
  have rd : ∀ {ρ1 : Rh} {H1 : Hp}, EvR ρ H ρ1 H1 → ∃ vs ws, SqT Y.K H1 a vs ∧ SqT Y.K H1 b ws ∧ Rps Y ρ1 H1 ts vs ∧ Rps Y ρ1 H1 us ws := fun ev => by
    obtain ⟨_, vs, ea, hs, _, rs⟩ := tupOf_ok (r1.ev ev) e1
    obtain ⟨_, ws, eb, hs2, _, rs2⟩ := tupOf_ok (r2.ev ev) e2
    cases ea
    cases eb
    exact ⟨vs, ws, hs, hs2, rs, rs2⟩
  refine ⟨fun ρ1 H1 h xs i w ev hr e ei => ?_, fun ρ1 H1 h xs i ev hr e hl => ?_⟩
  · cases e
    obtain ⟨vs, ws, hs, hs2, rs, rs2⟩ := rd ev
    unfold zipT at ei
    rw [List.getElem?_zipWith] at ei
    match q1 : ts[i]?, q2 : us[i]?, ei with
    | some x, some y, ei =>
      simp only [q1, q2, Option.some.injEq] at ei
      subst ei
      obtain ⟨v, ev1, rv⟩ := rs.get q1
      obtain ⟨z, ez1, rz⟩ := rs2.get q2
      refine ⟨⟨vs, ws, v, z, hs, hs2, ev1, ez1⟩, fun c H' yl => ?_⟩
      obtain ⟨p, x', y', rfl, hp, rfl, hx, hy⟩ := yl
      obtain rfl : v = x' := Option.some.inj (ev1.symm.trans (hx vs hs))
      obtain rfl : z = y' := Option.some.inj (ez1.symm.trans (hy ws hs2))
      exact pair_new hr rv rz hp
    | none, _, ei => simp [q1] at ei
    | some _, none, ei => simp [q1, q2] at ei
  · cases e
    obtain ⟨vs, ws, hs, hs2, rs, rs2⟩ := rd ev
    refine ⟨vs, ws, hs, hs2, ?_⟩
    rw [rs.length, rs2.length]
    unfold zipT at hl
    simp at hl
    omega
def iZipAM (g : MA) : MI := fun τ h => match g τ h with
  | .ok [t, u] h1 => (match tupOf t, tupOf u with
    | some ts, some us => .ok (fun _ => some (zipT ts us)) h1
    | _, _ => if ((listOf h1 t).isSome && (listOf h1 u).isSome) = true then .ok (fun h => match listOf h t, listOf h u with | some ts, some us => some (zipT ts us) | _, _ => none) h1 else .bad)
  | _ => .bad
theorem xiZipA {e e2 : Expr} {g : MA} {p pos tpos : Pos} {elts : List Expr} {kk : Nat} (hK : X.K = Y.K) (hg : Gl X "zip") (hm : X.mg "zip" = none) (ha : PA X [e, e2] (TMA Y g)) (hs : starEach [e, e2] X.env = (false, eval e X.env) :: starEach [e2] X.env := by rfl)
    (hpl : (backTo pos (starEach [e2] X.env)).any (·.1) = false := by rfl) : PI X (.Tuple elts kk tpos) (.Call (.Name "zip" p) [e, e2] [] pos) (TMI Y (iZipAM g)) := pi_imp (pi_zipA hg hm ha hs hpl) fun σ H R q => by
  obtain ⟨ρ, τ, h, rd, h', G, e, to⟩ := q
  unfold iZipAM at e
  split at e
  case h_2 => cases e
  rename_i t u h1 e1
  refine ⟨ρ, τ, h, [t, u], h1, G, e1, ⟨fun ρ1 H1 vs ev hr r => ?_⟩⟩
  obtain ⟨v, w, rfl, rv, rw'⟩ := rps_two r
  rw [hK]
  split at e
  · rename_i ts us et eu
    cases e
    obtain ⟨b, xs, rfl, hs, _, _⟩ := tupOf_ok rv et
    obtain ⟨b2, ys, rfl, hs2, _, _⟩ := tupOf_ok rw' eu
    exact ⟨b, b2, xs, ys, rfl, .inr ⟨hs, hs2, to ρ1 H1 _ ev hr (wk_zipT et eu rv rw')⟩⟩
  · split at e
    · rename_i hz
      cases e
      rw [Bool.and_eq_true] at hz
      obtain ⟨ts, ets⟩ := Option.isSome_iff_exists.mp hz.1
      obtain ⟨us, eus⟩ := Option.isSome_iff_exists.mp hz.2
      obtain ⟨b, xs, rfl, hs, _, _⟩ := listOf_ok rv hr ets
      obtain ⟨b2, ys, rfl, hs2, _, _⟩ := listOf_ok rw' hr eus
      exact ⟨b, b2, xs, ys, rfl, .inl ⟨hs, hs2, to ρ1 H1 _ ev hr (wk_zip rv rw')⟩⟩
    · cases e
end
end TL
namespace TL
open PySem PySem.Spec L2
end TL
namespace TL
open PySem PySem.Spec L2 PyProof.Rows
end TL
namespace TL
open PySem PySem.Spec L2
theorem out_nx {ρ : Rh} {p a : Addr} (hp : p ∈ ρ.ix) (h : ρ.out a) : a ≠ p := fun z => h.1 (z ▸ hp)
theorem Rd.updx {ρ : Rh} {H : Hp} {p a : Addr} {o u : HO} (hp : p ∈ ρ.ix) (h : ρ.out a) (r : Rd H a u) : Rd (upd H p o) a u :=
  r.elim (fun z => .inl ((upd_ne (out_nx hp h)).trans z)) fun ⟨q, z⟩ => .inr ⟨q, (upd_ne (out_nx hp h)).trans z⟩
mutual
theorem Rp.updx {Y : Wd} {ρ : Rh} {H : Hp} {p : Addr} {o : HO} (hp : p ∈ ρ.ix) : ∀ {t : T} {v : V}, Rp Y ρ H t v → Rp Y ρ (upd H p o) t v
  | _, _, .int i => .int i
  | _, _, .bl b => .bl b
  | _, _, .non => .non
  | _, _, .ref h => .ref h
  | _, _, .str h => .str h
  | _, _, .obj c n h nm r => .obj c n ((upd_ne (out_nx hp n)).trans h) nm (Rps.updx hp r)
  | _, _, .lst h r => .lst ⟨h.1, h.2.1, (upd_ne (out_nx hp h.2.1)).trans h.2.2⟩ (Rps.updx hp r)
  | _, _, .arg ⟨l, h⟩ r => .arg ⟨l, h.imp (fun z => ⟨z.1, Rd.updx hp z.1 z.2⟩) id⟩ (Rps.updx hp r)
  | _, _, .tpx h r => .tpx (h.to id fun z _ => upd_ne (out_nx hp z)) (Rps.updx hp r)
  | _, _, .exc h nm r => .exc (h.to (fun _ _ o _ => o) fun _ _ o z => (upd_ne (out_nx hp o)).trans z) nm (Rps.updx hp r)
  | _, _, .tup ⟨l, h⟩ r => .tup ⟨l, h.imp (fun z => ⟨z.1, Rd.updx hp z.1 z.2⟩) id⟩ (Rps.updx hp r)
theorem Rps.updx {Y : Wd} {ρ : Rh} {H : Hp} {p : Addr} {o : HO} (hp : p ∈ ρ.ix) : ∀ {ts : List T} {vs : List V}, Rps Y ρ H ts vs → Rps Y ρ (upd H p o) ts vs
  | _, _, .nil => .nil
  | _, _, .cons a b => .cons (Rp.updx hp a) (Rps.updx hp b)
end
theorem OR.updx {Y : Wd} {ρ : Rh} {H : Hp} {p a : Addr} {o : HO} (hp : p ∈ ρ.ix) (ne : a ≠ p) {vo : VO} (r : OR Y ρ H a vo) : OR Y ρ (upd H p o) a vo := by
  cases vo with
  | lst ts => exact let ⟨vs, x, hz, y⟩ := r; ⟨vs, (upd_ne ne).trans x, hz, y.updx hp⟩
  | ins c fs => exact let ⟨C, dx, vfs, hc, x, hn, y⟩ := r; ⟨C, dx, vfs, hc, (upd_ne ne).trans x, hn, y.updx hp⟩
  | dct kvs => exact let ⟨vk, x, y, z⟩ := r; ⟨vk, (upd_ne ne).trans x, y.updx hp, z.updx hp⟩
  | dcT kvs => exact let ⟨vk, x, y, z⟩ := r; ⟨vk, (upd_ne ne).trans x, y, z.updx hp⟩
  | dcF kvs => exact let ⟨q, vk, x, y, z⟩ := r; ⟨q, vk, (upd_ne ne).trans x, y.updx hp, z.updx hp⟩
  | dcN kvs => exact let ⟨q, x, i, y, z⟩ := r; ⟨q, (upd_ne ne).trans x, i, y.updx hp, z.updx hp⟩
  | tab nm => exact ⟨r.1, TbAt.to r.2 (upd_ne ne) fun c o z => ⟨o, (upd_ne (out_nx hp o)).trans z⟩⟩
theorem HR.put {Y : Wd} {ρ : Rh} {H : Hp} {h : VH} (r : HR Y ρ H h) {n : Nat} {p : Addr} {o : HO} {vo : VO} (hp : ρ.ix[n]? = some p) (ho : OR Y ρ (upd H p o) p vo) : HR Y ρ (upd H p o) (h.set n vo) := by
  have mp := List.mem_of_getElem? hp
  have nb : ∀ a ∈ ρ.bn, a ≠ p := fun a ha z => (r.bt a ha).2 (z ▸ mp)
  constructor
  case len => rw [List.length_set]; exact r.len
  case nd => exact r.nd
  case tb => exact r.tbTo (fun _ o _ => o) fun c o _ => upd_ne (out_nx mp o)
  case bt => exact fun a ha => ⟨by rw [upd_ne (nb a ha)]; exact (r.bt a ha).1, (r.bt a ha).2⟩
  case bl => exact fun a ha xs => by rw [upd_ne (nb a ha)]; exact r.bl a ha xs
  case at_ =>
    intro k w a h1 h2
    by_cases e : n = k
    · subst e
      obtain rfl : p = a := Option.some.inj (hp.symm.trans h2)
      have lt := (List.getElem?_eq_some_iff.mp h1).1
      rw [List.length_set] at lt
      rw [List.getElem?_set_self lt] at h1
      cases h1
      exact ho
    · rw [List.getElem?_set_ne e] at h1
      refine (r.at_ k w a h1 h2).updx mp fun z => e ?_
      subst z
      obtain ⟨l1, g1⟩ := List.getElem?_eq_some_iff.mp hp
      obtain ⟨l2, g2⟩ := List.getElem?_eq_some_iff.mp h2
      exact (List.getElem_inj r.nd).mp (g1.trans g2.symm)
end TL
namespace TL
open PySem PySem.Spec L2 PyProof.Rows
abbrev cells2 (N : Nat) : List Addr := [N + 4, N + 2, N + 3, N, N + 1]
structure At2 (N a b n i : Nat) (h : Heap) : Prop where
  z : IsZip h (N + 4) (N + 2) (N + 3) .none
  ti : IsTupOf2 h (N + 2) (.ref N) (.ref (N + 1))
  tout : ∃ u v, IsTupOf2 h (N + 3) u v
  p : h.IsTupleIter N a i
  q : h.IsListIter (N + 1) b i
  le : i ≤ n
theorem At2.there {N a b n i : Nat} {h : Heap} (s : At2 N a b n i h) {k : Addr} (m : k ∈ cells2 N) : ∃ o, h.get? k = some o ∧ ∀ v, o.data ≠ .cell v := by
  simp only [List.mem_cons, List.not_mem_nil, or_false] at m
  rcases m with rfl | rfl | rfl | rfl | rfl
  · exact ⟨_, s.z, nofun⟩
  · exact ⟨_, s.ti, nofun⟩
  · obtain ⟨u, v, e⟩ := s.tout
    exact ⟨_, e, nofun⟩
  · obtain ⟨o, e, _, d⟩ := s.p
    exact ⟨o, e, fun v y => by rw [d] at y; cases y⟩
  · obtain ⟨o, e, _, d⟩ := s.q
    exact ⟨o, e, fun v y => by rw [d] at y; cases y⟩
end TL
namespace TL
open PySem PySem.Spec L2 PyProof.Rows
section
variable {X : Cx} {pins : List (Addr × Obj)} {σ : St} {H : Hp} {s : Shared}
abbrev NV (xs : List (NestedKey × Addr × V)) (ys : List (NestedKey × Addr × Value)) : Prop := Paired (fun (p : NestedKey × Addr × V) (q : NestedKey × Addr × Value) => p.1 = q.1 ∧ p.2.1 = q.2.1 ∧ RelV p.2.2 q.2.2) xs ys
def atN : List (NestedKey × Addr × V) → NestedKey → Option V
  | [], _ => none
  | x :: xs, k => if x.1 = k then some x.2.2 else atN xs k
def putN (xs : List (NestedKey × Addr × V)) (k : NestedKey) (b : Addr) (v : V) : List (NestedKey × Addr × V) :=
  if (atN xs k).isSome = true then xs.map (fun x => if x.1 = k then (x.1, x.2.1, v) else x) else xs ++ [(k, b, v)]
theorem NV.at_ {xs : List (NestedKey × Addr × V)} {ys : List (NestedKey × Addr × Value)} (r : NV xs ys) (k : NestedKey) : (atN xs k = none ∧ atKey ys k = none) ∨ ∃ v b u, atN xs k = some v ∧ atKey ys k = some (b, u) ∧ RelV v u := by
  induction r with
  | nil => exact .inl ⟨rfl, rfl⟩
  | @cons p q ps qs hq t ih =>
    by_cases e : p.1 = k
    · refine .inr ⟨p.2.2, q.2.1, q.2.2, by simp [atN, e], ?_, hq.2.2⟩
      have : q.1 = k := hq.1 ▸ e
      simp [atKey, this]
    · have e2 : ¬ q.1 = k := fun z => e (hq.1.trans z)
      have a1 : atN (p :: ps) k = atN ps k := by simp [atN, e]
      have a2 : atKey (q :: qs) k = atKey qs k := by simp [atKey, e2]
      rw [a1, a2]
      exact ih
theorem NV.keys {xs : List (NestedKey × Addr × V)} {ys : List (NestedKey × Addr × Value)} (r : NV xs ys) : xs.map (·.1) = ys.map (·.1) := by
  induction r with
  | nil => rfl
  | cons hq t ih => simp [hq.1, ih]
theorem NV.put {xs : List (NestedKey × Addr × V)} {ys : List (NestedKey × Addr × Value)} (r : NV xs ys) (k : NestedKey) (b : Addr) {v : V} {u : Value} (rv : RelV v u) : NV (putN xs k b v) (storedH ys k b u) := by
  have mp : ∀ {xs : List (NestedKey × Addr × V)} {ys : List (NestedKey × Addr × Value)}, NV xs ys → NV (xs.map fun x => if x.1 = k then (x.1, x.2.1, v) else x) (ys.map (putAt k u)) := by
    intro xs ys r
    induction r with
    | nil => exact .nil
    | @cons p q ps qs hq t ih =>
      refine .cons ?_ ih
      unfold putAt
      by_cases e : p.1 = k
      · have e2 : q.1 = k := hq.1 ▸ e
        simp only [if_pos e, if_pos e2]
        exact ⟨hq.1, hq.2.1, rv⟩
      · have e2 : ¬ q.1 = k := fun z => e (hq.1.trans z)
        simp only [if_neg e, if_neg e2]
        exact hq
  rcases r.at_ k with ⟨a, c⟩ | ⟨v0, b0, u0, a, c, _⟩
  · unfold putN
    rw [a, storedH_new c]
    exact Paired.snoc r ⟨rfl, rfl, rv⟩
  · unfold putN
    rw [a, storedH_old c]
    exact mp r
end
section
variable {X : Cx} {Y : Wd}
section
variable {ρ : Rh} {H : Hp}
inductive NR (Y : Wd) (ρ : Rh) (H : Hp) : List (T × T) → List (NestedKey × Addr × V) → Prop
  | nil : NR Y ρ H [] []
  | cons {kt t : T} {k : NestedKey} {b : Addr} {v : V} {kvs : List (T × T)} {xs : List (NestedKey × Addr × V)} : nkT kt = some k → k.depth ≤ 8 → Rp Y ρ H kt (.ref b) → Rp Y ρ H t v → NR Y ρ H kvs xs → NR Y ρ H ((kt, t) :: kvs) ((k, b, v) :: xs)
theorem NR.of : ∀ {kvs : List (T × T)} {xs : List (NestedKey × Addr × V)}, nkT.nkTs (kvs.map (·.1)) = some (xs.map (·.1)) → (∀ x ∈ xs, x.1.depth ≤ 8) → Rps Y ρ H (kvs.map (·.1)) (xs.map fun x => V.ref x.2.1) → Rps Y ρ H (kvs.map (·.2)) (xs.map fun x => x.2.2) → NR Y ρ H kvs xs
  | [], [], _, _, _, _ => .nil
  | [], _ :: _, _, _, r, _ => by cases r
  | _ :: _, [], _, _, r, _ => by cases r
  | (kt, t) :: kvs, (k, b, v) :: xs, e, d, r1, r2 => by
    rw [List.map_cons, List.map_cons, nkT.nkTs] at e
    split at e
    · rename_i k0 ks e1 e2
      simp only [Option.some.injEq, List.cons.injEq] at e
      obtain ⟨rfl, rfl⟩ := e
      cases r1 with
      | cons a1 a2 => cases r2 with
        | cons b1 b2 => exact .cons e1 (d _ List.mem_cons_self) a1 b1 (NR.of e2 (fun x hx => d x (List.mem_cons_of_mem _ hx)) a2 b2)
    · cases e
theorem NR.to {kvs : List (T × T)} {xs : List (NestedKey × Addr × V)} (r : NR Y ρ H kvs xs) : (nkT.nkTs (kvs.map (·.1)) = some (xs.map (·.1)) ∧ ∀ x ∈ xs, x.1.depth ≤ 8) ∧ Rps Y ρ H (kvs.map (·.1)) (xs.map fun x => V.ref x.2.1) ∧ Rps Y ρ H (kvs.map (·.2)) (xs.map fun x => x.2.2) := by
  induction r with
  | nil => exact ⟨⟨rfl, fun _ h => by cases h⟩, .nil, .nil⟩
  | cons e d a b _ ih =>
    obtain ⟨⟨i1, i2⟩, i3, i4⟩ := ih
    refine ⟨⟨?_, fun x hx => ?_⟩, .cons a i3, .cons b i4⟩
    · rw [List.map_cons, List.map_cons, nkT.nkTs, e, i1]
    · rcases List.mem_cons.mp hx with rfl | hx
      · exact d
      · exact i2 x hx
theorem NR.length {kvs : List (T × T)} {xs : List (NestedKey × Addr × V)} (r : NR Y ρ H kvs xs) : xs.length = kvs.length := by
  induction r with
  | nil => rfl
  | cons _ _ _ _ _ ih => simp [ih]
theorem NR.ev {ρ' : Rh} {H' : Hp} (e : EvR ρ H ρ' H') {kvs : List (T × T)} {xs : List (NestedKey × Addr × V)} (r : NR Y ρ H kvs xs) : NR Y ρ' H' kvs xs := by
  induction r with
  | nil => exact .nil
  | cons k d a b _ ih => exact .cons k d (a.ev e) (b.ev e) ih
def getN : List (T × T) → NestedKey → Option T
  | [], _ => none
  | q :: r, k => if nkT q.1 = some k then some q.2 else getN r k
def putNT (kvs : List (T × T)) (k : NestedKey) (kt t : T) : List (T × T) :=
  if (getN kvs k).isSome = true then kvs.map (fun q => if nkT q.1 = some k then (q.1, t) else q) else kvs ++ [(kt, t)]
theorem NR.get {kvs : List (T × T)} {xs : List (NestedKey × Addr × V)} (r : NR Y ρ H kvs xs) (k : NestedKey) : (getN kvs k = none ∧ atN xs k = none) ∨ ∃ t v, getN kvs k = some t ∧ atN xs k = some v ∧ Rp Y ρ H t v := by
  induction r with
  | nil => exact .inl ⟨rfl, rfl⟩
  | @cons kt t k0 b v kvs xs e d a c _ ih =>
    by_cases q : k0 = k
    · exact .inr ⟨t, v, by simp [getN, e, q], by simp [atN, q], c⟩
    · have a1 : getN ((kt, t) :: kvs) k = getN kvs k := by simp [getN, e, q]
      have a2 : atN ((k0, b, v) :: xs) k = atN xs k := by simp [atN, q]
      rw [a1, a2]
      exact ih
theorem NR.snoc {kvs : List (T × T)} {xs : List (NestedKey × Addr × V)} (r : NR Y ρ H kvs xs) {kt t : T} {k : NestedKey} {b : Addr} {v : V} (e : nkT kt = some k) (d : k.depth ≤ 8) (a : Rp Y ρ H kt (.ref b)) (c : Rp Y ρ H t v) : NR Y ρ H (kvs ++ [(kt, t)]) (xs ++ [(k, b, v)]) := by
  induction r with
  | nil => exact .cons e d a c .nil
  | cons e' d' a' c' _ ih => exact .cons e' d' a' c' ih
theorem NR.put {kvs : List (T × T)} {xs : List (NestedKey × Addr × V)} (r : NR Y ρ H kvs xs) {kt t : T} {k : NestedKey} {b : Addr} {v : V} (e : nkT kt = some k) (d : k.depth ≤ 8) (a : Rp Y ρ H kt (.ref b)) (c : Rp Y ρ H t v) : NR Y ρ H (putNT kvs k kt t) (putN xs k b v) := by
  have mp : ∀ {kvs : List (T × T)} {xs : List (NestedKey × Addr × V)}, NR Y ρ H kvs xs → NR Y ρ H (kvs.map fun q => if nkT q.1 = some k then (q.1, t) else q) (xs.map fun x => if x.1 = k then (x.1, x.2.1, v) else x) := by
    intro kvs xs r
    induction r with
    | nil => exact .nil
    | @cons kt0 t0 k0 b0 v0 kvs xs e0 d0 a0 c0 _ ih =>
      rw [List.map_cons, List.map_cons]
      by_cases q : k0 = k
      · simp only [e0, q, if_true]
        exact .cons (q ▸ e0) (q ▸ d0) a0 c ih
      · have q2 : ¬ (some k0 = some k) := fun z => q (Option.some.inj z)
        simp only [e0, q, q2, if_false]
        exact .cons e0 d0 a0 c0 ih
  unfold putNT putN
  rcases r.get k with ⟨g1, g2⟩ | ⟨t1, v1, g1, g2, _⟩
  · rw [g1, g2]
    exact r.snoc e d a c
  · rw [g1, g2]
    exact mp r
theorem NR.or {kvs : List (T × T)} {xs : List (NestedKey × Addr × V)} {a : Addr} (r : NR Y ρ H kvs xs) (e : H a = some (.ext (NestObj Y.w a xs))) : OR Y ρ H a (.dcN kvs) := ⟨xs, e, r.to⟩
end
end
end TL
namespace TL
open PySem PySem.Spec PySem.Calls PyProof PyProof.Rows PySem.W L2 MeetsSeq
end TL
namespace TL
open PySem PySem.Spec L2 PyProof.Rows
abbrev cellsLT (N : Nat) : List Addr := [N + 4, N + 2, N + 3, N, N + 1]
structure AtLT (N a b n i : Nat) (h : Heap) : Prop where
  z : IsZip h (N + 4) (N + 2) (N + 3) .none
  ti : IsTupOf2 h (N + 2) (.ref N) (.ref (N + 1))
  tout : ∃ u v, IsTupOf2 h (N + 3) u v
  p : h.IsListIter N a i
  q : h.IsTupleIter (N + 1) b i
  le : i ≤ n
theorem AtLT.there {N a b n i : Nat} {h : Heap} (s : AtLT N a b n i h) {k : Addr} (m : k ∈ cellsLT N) : ∃ o, h.get? k = some o ∧ ∀ v, o.data ≠ .cell v := by
  simp only [List.mem_cons, List.not_mem_nil, or_false] at m
  rcases m with rfl | rfl | rfl | rfl | rfl
  · exact ⟨_, s.z, nofun⟩
  · exact ⟨_, s.ti, nofun⟩
  · obtain ⟨u, v, e⟩ := s.tout
    exact ⟨_, e, nofun⟩
  · obtain ⟨o, e, _, d⟩ := s.p
    exact ⟨o, e, fun v y => by rw [d] at y; cases y⟩
  · obtain ⟨o, e, _, d⟩ := s.q
    exact ⟨o, e, fun v y => by rw [d] at y; cases y⟩
end TL
namespace TL
open PySem PySem.Spec PySem.Calls PyProof PyProof.Rows PySem.W L2
open PySem.SeqAt PySem.W
end TL
namespace TL
open PySem PySem.Spec L2 PyProof.Rows
end TL
namespace TL
open PySem PySem.Spec L2
end TL
namespace K66
open K58
open K06
open K13
open PySem L2 TL
def s_law_rows : MS := (sSeq (sSet 3 eDNewT)
  (sSeq (sFor (iRange1 (aCons (eCall m_law_take (aCons (eVar 0) (aCons (eOp bAdd (eVar 2) (eK (.int 1))) aNil))) aNil)) (mgName 4) (sSeq (sSet 5 (eCall m_law_of (aCons (eVar 0) (aCons (eL (aLim (aCons (eK (.int 1)) (aCons (eK (.int 2)) (aCons (eK (.int 2)) (aCons (eK (.int 2)) (aCons (eK (.int 3)) (aCons (eK (.int 3)) (aCons (eK (.int 4)) (aCons (eK (.int 5)) aNil)))))))))) aNil))))
  (sAsg (eK (.bl true)) (mgPutT (eVar 3) (mCall fTupF (aCons (eL (mSortSetI (eL (mLc (iRange1 (aCons (eVar 5) aNil)) [6] (mgName 6) bYes (eCall m_law_take (aCons (eVar 0) (aCons (eVar 1) aNil))))))) aNil))))))
  (sRet (eCall fTuple (aCons (eL (mCall fSortedDT (aCons (eVar 3) aNil))) aNil)))))
def m_law_rows : List T → VH → Res T := defM 7 3 s_law_rows
def s_law_frame : MS := (sSeq (sAsg (eTup (aCons (eCall m_law_rows (aCons (eVar 0) (aCons (eVar 1) (aCons (eVar 2) aNil)))) (aCons (eH (mRg1 (eVar 1))) (aCons (eH (aLim aNil)) (aCons (eH (aLim aNil)) aNil))))) (mgTup 4 (mgsCons (mgName 4) (mgsCons (mgName 5) (mgsCons (mgName 6) (mgsCons (mgName 7) mgsNil))))))
  (sSeq (sFor (iRange1 (aCons (eCall m_law_take (aCons (eVar 0) (aCons (eOp bAdd (eVar 3) (eK (.int 1))) aNil))) aNil)) (mgName 8) (sIf (bTest (eOp bNe (eVar 5) (eL (aLim aNil)))) (sSeq (sSet 9 (eMt "list" mPopAt (eVar 5) (aCons (eCall m_law_take (aCons (eVar 0) (aCons (eCall fLen (aCons (eVar 5) aNil)) aNil))) aNil)))
  (sIf (bTest (eOp bEq (eCall m_law_take (aCons (eVar 0) (aCons (eK (.int 2)) aNil))) (eK (.int 0)))) (sExpr (eMt "list" mAppend (eVar 6) (aCons (eVar 9) aNil))) (sExpr (eMt "list" mAppend (eVar 7) (aCons (eVar 9) aNil))))) sNil))
  (sRet (eTup (aCons (eVar 1) (aCons (eVar 4) (aCons (eCall fTuple (aCons (eL (mCall fSorted (aCons (eVar 6) aNil))) aNil)) (aCons (eCall fTuple (aCons (eL (mCall fSorted (aCons (eVar 7) aNil))) aNil)) aNil))))))))
def m_law_frame : List T → VH → Res T := defM 10 4 s_law_frame
def s_law_common : MS := (sSeq (sFor (iRange1 (aCons (eK (.int 400)) aNil)) (mgName 2) (sSeq (sIf (bTest (eOp bEq (eVar 1) (eK (.int 0)))) (sRet (eVar 0)) sNil)
  (sPar 0 1 (aCons (eVar 1) (aCons (eOp bMod (eCall fInt (aCons (eVar 0) aNil)) (eVar 1)) aNil)))))
  (sRet (eVar 0)))
def m_law_common : List T → VH → Res T := defM 3 2 s_law_common
def s_law_lots : MS := (sSeq (sSet 1 (eH (aLim aNil)))
  (sSeq (sFor (iRange1 (aCons (eCall fLen (aCons (eOp bIx (eVar 0) (eK (.int 1))) aNil)) aNil)) (mgName 2) (sIf (bTest (eOp bEq (eL (mLc (iSeqC (eOp bIx (eOp bIx (eVar 0) (eK (.int 1))) (eVar 2))) [3] (mgName 3) (bTest (eOp bIn (eVar 3) (eOp bIx (eVar 0) (eK (.int 3))))) (eVar 3))) (eL (aLim aNil)))) (sExpr (eMt "list" mAppend (eVar 1) (aCons (eTup (aCons (eVar 2) (aCons (eCall fTuple (aCons (eL (mLc (iSeqC (eOp bIx (eOp bIx (eVar 0) (eK (.int 1))) (eVar 2))) [3] (mgName 3) (bTest (eOp bNin (eVar 3) (eOp bIx (eVar 0) (eK (.int 2))))) (eVar 3))) aNil)) aNil))) aNil))) sNil))
  (sRet (eVar 1))))
def m_law_lots : List T → VH → Res T := defM 4 1 s_law_lots
def s_law_heavy : MS := (sSeq (sSet 2 (eCall m_law_lots (aCons (eVar 0) aNil)))
  (sSeq (sPar3 3 4 5 (aCons (eCall fMax (aCons (eOp bAdd (eL (mLc (iSeqC (eVar 2)) [6, 7] (mgTup 2 (mgsCons (mgName 6) (mgsCons (mgName 7) mgsNil))) bYes (eCall fLen (aCons (eVar 7) aNil)))) (eL (aLim (aCons (eK (.int 0)) aNil)))) aNil)) (aCons (eK (.int 0)) (aCons (eK (.int 1)) aNil))))
  (sSeq (sFor (iRange1 (aCons (eVar 3) aNil)) (mgName 8) (sSet 5 (eOp bMul (eVar 5) (eOp bAdd (eVar 1) (eK (.int 1))))))
  (sSeq (sFor (iSeqC (eVar 2)) (mgTup 2 (mgsCons (mgName 6) (mgsCons (mgName 7) mgsNil))) (sSeq (sSet 9 (eVar 5))
  (sSeq (sFor (iSeqC (eVar 7)) (mgName 10) (sSet 9 (eOp bFdv (eVar 9) (eOp bAdd (eVar 1) (eK (.int 1))))))
  (sSet 4 (eOp bAdd (eVar 4) (eVar 9))))))
  (sSeq (sSet 11 (eCall m_law_common (aCons (eVar 4) (aCons (eVar 5) aNil))))
  (sRet (eTup (aCons (eOp bFdv (eVar 4) (eVar 11)) (aCons (eOp bFdv (eVar 5) (eVar 11)) aNil)))))))))
def m_law_heavy : List T → VH → Res T := defM 12 2 s_law_heavy
def s_Sheet_lots : MS := (sRet (eL (mLc (iSeqC (eL (mCall fSorted (aCons (eL (mCall fListD (aCons (eFld 10 1 (eVar 0)) aNil))) aNil)))) [1] (mgName 1) bYes (eOp bGetD (eFld 10 1 (eVar 0)) (eVar 1)))))
def m_Sheet_lots : List T → VH → Res T := defM 2 1 s_Sheet_lots
def s_has_divisor : MS := (sSeq (whileL (bTest (eOp bNe (eVar 1) (eK (.int 0)))) (sPar 0 1 (aCons (eVar 1) (aCons (eOp bMod (eVar 0) (eVar 1)) aNil))) 1000)
  (sRet (eOp bNe (eVar 0) (eK (.int 1)))))
def m_has_divisor : List T → VH → Res T := defM 2 2 s_has_divisor
def s_power_sheets : MS := (sSeq (sSet 2 (eK (.int 1)))
  (sSeq (sFor (iRange1 (aCons (eVar 1) aNil)) (mgName 3) (sSet 2 (eOp bMul (eVar 2) (eVar 0))))
  (sRet (eVar 2))))
def m_power_sheets : List T → VH → Res T := defM 4 2 s_power_sheets
def s_is_weight : MS := (sSeq (sIf (bOr (bNot (bTest (eCall fAll (aCons (eL (mLc (iSeqC (eTup (aCons (eVar 1) (aCons (eVar 2) (aCons (eVar 3) aNil))))) [4] (mgName 4) bYes (eCall m_is_whole (aCons (eVar 4) aNil)))) aNil)))) (bOr (bNot (bTest (eChain bLe bLe (eK (.int 1)) (eVar 1) (eK (.int 9))))) (bTest (eOp bLt (eVar 3) (eK (.int 1)))))) (sRet (eK (.bl false))) sNil)
  (sSeq (sAsg (eTup (aCons (eMeth 10 m_Sheet_lots (eVar 0) aNil) (aCons (eOp bAdd (eVar 1) (eK (.int 1))) aNil))) (mgTup 2 (mgsCons (mgName 5) (mgsCons (mgName 6) mgsNil))))
  (sSeq (sSet 7 (eMaxD (aCons (eL (mLc (iSeqC (eVar 5)) [8] (mgName 8) bYes (eCall fLen (aCons (eVar 8) aNil)))) aNil) (eK (.int 0))))
  (sSeq (sSet 9 (eCall fSum (aCons (eL (mLc (iSeqC (eVar 5)) [8] (mgName 8) bYes (eCall m_power_sheets (aCons (eVar 6) (aCons (eOp bSub (eVar 7) (eCall fLen (aCons (eVar 8) aNil))) aNil))))) aNil)))
  (sRet (eAnd (eOp bEq (eOp bMul (eVar 2) (eCall m_power_sheets (aCons (eVar 6) (aCons (eVar 7) aNil)))) (eOp bMul (eVar 9) (eVar 3))) (eNot (eCall m_has_divisor (aCons (eVar 2) (aCons (eVar 3) aNil))))))))))
def m_is_weight : List T → VH → Res T := defM 10 4 s_is_weight
def s_Sheet___init__ : MS := (sSeq (sAsg (eL (mLc (iRange1 (aCons (eVar 1) aNil)) [5] (mgName 5) (bAnd (bTest (eOp bNin (eVar 5) (eVar 3))) (bTest (eOp bNin (eVar 5) (eVar 4)))) (eVar 5))) (mgFld 10 0 (eVar 0)))
  (sSeq (sAsg eDNew (mgFld 10 1 (eVar 0)))
  (sFor (iEnumM (aCons (eVar 2) aNil)) (mgTup 2 (mgsCons (mgName 6) (mgsCons (mgName 7) mgsNil))) (sIf (bNot (bTest (eCall fAny (aCons (eL (mLc (iSeqC (eVar 7)) [5] (mgName 5) bYes (eOp bIn (eVar 5) (eVar 4)))) aNil)))) (sAsg (eL (mLc (iSeqC (eVar 7)) [5] (mgName 5) (bTest (eOp bNin (eVar 5) (eVar 3))) (eVar 5))) (mgSub bSetD (eFld 10 1 (eVar 0)) (eVar 6))) sNil))))
def m_Sheet___init__ : List T → VH → Res T := defM 8 5 s_Sheet___init__
def s_is_rising : MS := (sRet (eCall fAll (aCons (eL (mLc (iZipAM (aCons (eSl (eVar 0) oNo (oSome (eNeg (eK (.int 1))))) (aCons (eSl (eVar 0) (oSome (eK (.int 1))) oNo) aNil))) [1, 2] (mgTup 2 (mgsCons (mgName 1) (mgsCons (mgName 2) mgsNil))) bYes (eOp bLt (eVar 1) (eVar 2)))) aNil)))
def m_is_rising : List T → VH → Res T := defM 3 1 s_is_rising
def s_are_cells : MS := (sSeq (sIf (bOr (bNot (bTest (eIsi (.b "tuple") (eVar 0)))) (bNot (bTest (eCall fAll (aCons (eL (mLc (iSeqC (eVar 0)) [2] (mgName 2) bYes (eAnd (eCall m_is_whole (aCons (eVar 2) aNil)) (eChain bLe bLt (eK (.int 0)) (eVar 2) (eVar 1))))) aNil))))) (sRet (eK (.bl false))) sNil)
  (sRet (eCall m_is_rising (aCons (eVar 0) aNil))))
def m_are_cells : List T → VH → Res T := defM 3 2 s_are_cells
def s_number_told : MS := (sSeq (sIf (bOr (bTest (eOp bEq (eVar 0) (eK (.str "")))) (bOr (bTest (eOp bGt (eCall fLen (aCons (eVar 0) aNil)) (eK (.int 4)))) (bNot (bTest (eCall fAll (aCons (eL (mLc (iSeqC (eVar 0)) [1] (mgName 1) bYes (eOp bIn (eVar 1) (eK (.str "0123456789"))))) aNil)))))) (sRet (eK .non)) sNil)
  (sRet (eIf (bOr (bTest (eOp bNe (eOp bIx (eVar 0) (eK (.int 0))) (eK (.str "0")))) (bTest (eOp bEq (eVar 0) (eK (.str "0"))))) (eCall fInt (aCons (eVar 0) aNil)) (eK .non))))
def m_number_told : List T → VH → Res T := defM 2 1 s_number_told
def s_line_told : MS := (sSeq (sIf (bTest (eOp bNe (eSl (eVar 0) oNo (oSome (eK (.int 1)))) (eK (.str " ")))) (sRet (eK .non)) sNil)
  (sSeq (sSet 2 (eL (mLc (iSeqC (eMt "str" mSplit (eSl (eVar 0) (oSome (eK (.int 1))) oNo) (aCons (eK (.str " ")) aNil))) [3] (mgName 3) bYes (eCall m_number_told (aCons (eVar 3) aNil)))))
  (sSeq (sIf (bOr (bNot (bTest (eCall fAll (aCons (eL (mLc (iSeqC (eVar 2)) [4] (mgName 4) bYes (eAnd (eOp bIsn (eVar 4) (eK .non)) (eOp bLt (eVar 4) (eVar 1))))) aNil)))) (bNot (bTest (eCall m_is_rising (aCons (eVar 2) aNil))))) (sRet (eK .non)) sNil)
  (sRet (eCall fTuple (aCons (eVar 2) aNil))))))
def m_line_told : List T → VH → Res T := defM 5 2 s_line_told
def s_board_told : MS := (sSeq (sSet 1 (eIf (bTest (eIsi (.b "str") (eVar 0))) (eMt "str" mSplit (eVar 0) (aCons (eK (.str ":")) aNil)) (eL (aLim aNil))))
  (sSeq (sSet 2 (eIf (bTest (eOp bEq (eCall fLen (aCons (eVar 1) aNil)) (eK (.int 2)))) (eCall m_number_told (aCons (eOp bIx (eVar 1) (eK (.int 0))) aNil)) (eK .non)))
  (sSeq (sIf (bOr (bTest (eOp bIs (eVar 2) (eK .non))) (bNot (bTest (eChain bLt bLe (eK (.int 0)) (eVar 2) (eK (.int 30)))))) (sRet (eK .non)) sNil)
  (sSeq (sSet 3 (eIf (bTest (eOp bNe (eOp bIx (eVar 1) (eK (.int 1))) (eK (.str "")))) (eL (mLc (iSeqC (eMt "str" mSplit (eOp bIx (eVar 1) (eK (.int 1))) (aCons (eK (.str ",")) aNil))) [4] (mgName 4) bYes (eCall m_line_told (aCons (eVar 4) (aCons (eVar 2) aNil))))) (eL (aLim aNil))))
  (sSeq (sIf (bOr (bTest (eOp bIn (eK .non) (eVar 3))) (bOr (bTest (eOp bGt (eCall fLen (aCons (eVar 3) aNil)) (eK (.int 30)))) (bNot (bTest (eCall m_is_rising (aCons (eVar 3) aNil)))))) (sRet (eK .non)) sNil)
  (sRet (eTup (aCons (eVar 2) (aCons (eVar 3) aNil)))))))))
def m_board_told : List T → VH → Res T := defM 5 1 s_board_told
def s_sheet_told : MS := (sSeq (sSet 3 (eCall m_board_told (aCons (eVar 0) aNil)))
  (sSeq (sIf (bTest (eOp bIs (eVar 3) (eK .non))) (sRet (eK .non)) sNil)
  (sSeq (sAsg (eVar 3) (mgTup 2 (mgsCons (mgName 4) (mgsCons (mgName 5) mgsNil))))
  (sSeq (sIf (bOr (bNot (bTest (eCall m_are_cells (aCons (eVar 1) (aCons (eVar 4) aNil))))) (bOr (bNot (bTest (eCall m_are_cells (aCons (eVar 2) (aCons (eVar 4) aNil))))) (bTest (eCall fAny (aCons (eL (mLc (iSeqC (eVar 2)) [6] (mgName 6) bYes (eOp bIn (eVar 6) (eVar 1)))) aNil))))) (sRet (eK .non)) sNil)
  (sRet (eCall (makeM 10 m_Sheet___init__) (aCons (eVar 4) (aCons (eVar 5) (aCons (eVar 1) (aCons (eVar 2) aNil))))))))))
def m_sheet_told : List T → VH → Res T := defM 7 3 s_sheet_told
def s_shows_stand : MS := (sSeq (sSet 2 (eCall m_sheet_told (aCons (eOp bIx (eVar 0) (eK (.int 1))) (aCons (eOp bIx (eVar 0) (eK (.int 2))) (aCons (eOp bIx (eVar 0) (eK (.int 3))) aNil)))))
  (sSeq (sIf (bTest (eOp bIs (eVar 2) (eK .non))) (sRet (eK (.bl false))) sNil)
  (sSeq (sIf (bTest (eOp bEq (eOp bIx (eVar 0) (eK (.int 0))) (eK (.str "own")))) sBad sNil)
  (sSeq (sIf (bTest (eOp bEq (eOp bIx (eVar 0) (eK (.int 0))) (eK (.str "pairs")))) sBad sNil)
  (sSeq (sIf (bTest (eOp bEq (eOp bIx (eVar 0) (eK (.int 0))) (eK (.str "lacks")))) sBad sNil)
  (sSeq (sIf (bTest (eOp bEq (eOp bIx (eVar 0) (eK (.int 0))) (eK (.str "forced")))) sBad sNil)
  (sSeq (sIf (bTest (eOp bIsn (eVar 1) (eK .non))) (sRet (eK (.bl false))) sNil)
  (sSeq (sIf (bTest (eOp bEq (eOp bIx (eVar 0) (eK (.int 0))) (eK (.str "weight")))) (sRet (eCall m_is_weight (aCons (eVar 2) (aCons (eOp bIx (eVar 0) (eK (.int 4))) (aCons (eOp bIx (eVar 0) (eK (.int 5))) (aCons (eOp bIx (eVar 0) (eK (.int 6))) aNil)))))) sNil)
  sBad))))))))
def m_shows_stand : List T → VH → Res T := defM 3 2 s_shows_stand
def s_accepts : MS := (sSeq (sIf (bOr (bNot (bTest (eIsi (.b "tuple") (eVar 0)))) (bOr (bTest (eOp bEq (eVar 0) (eTup aNil))) (bNot (bTest (eIsi (.b "str") (eOp bIx (eVar 0) (eK (.int 0)))))))) (sRet (eK (.bl false))) sNil)
  (sSeq (sIf (bTest (eOp bNe (eGetK kv_SIZES (eOp bIx (eVar 0) (eK (.int 0)))) (eCall fLen (aCons (eVar 0) aNil)))) (sRet (eK (.bl false))) sNil)
  (sSeq (sIf (bTest (eOp bIn (eOp bIx (eVar 0) (eK (.int 0))) (eTup (aCons (eK (.str "held")) (aCons (eK (.str "free")) aNil))))) sBad sNil)
  (sRet (eCall m_shows_stand (aCons (eVar 0) (aCons (eVar 1) aNil)))))))
def m_accepts : List T → VH → Res T := cutM (defM 2 2 s_accepts)
def s_law_judge : MS := (sSeq (sSet 3 (eL (aLim (aCons (eCall m_accepts (aCons (eVar 0) (aCons (eVar 1) aNil))) (aCons (eCall m_accepts (aPerm [1, 0] (aCons (eVar 1) (aCons (eVar 0) aNil)))) aNil)))))
  (sRet (eOp bEq (eCall fRepr (aCons (eVar 3) aNil)) (eCall fRepr (aCons (eL (aLim (aCons (eVar 2) (aCons (eVar 2) aNil)))) aNil)))))
def m_law_judge : List T → VH → Res T := defM 4 3 s_law_judge
def s_law_text : MS := (sSeq (sSet 2 (eL (mLc (iSeqC (eVar 1)) [3] (mgName 3) bYes (eOp bAdd (eK (.str " ")) (eMt "str" mJoin (eK (.str " ")) (aCons (eL (mLc (iSeqC (eVar 3)) [4] (mgName 4) bYes (eCall fStr (aCons (eVar 4) aNil)))) aNil))))))
  (sRet (eOp bAdd (eOp bAdd (eCall fStr (aCons (eVar 0) aNil)) (eK (.str ":"))) (eMt "str" mJoin (eK (.str ",")) (aCons (eVar 2) aNil)))))
def m_law_text : List T → VH → Res T := defM 5 2 s_law_text
def s_law_made : MS := (sRet (eCall (cutM (makeM 1 m_Stand___init__)) (aCons (eCall (cutM (makeM 0 m_Board___init__)) (aCons (eCall m_law_text (aCons (eOp bIx (eVar 0) (eK (.int 0))) (aCons (eOp bIx (eVar 0) (eK (.int 1))) aNil))) aNil)) (aCons (eOp bIx (eVar 0) (eK (.int 2))) (aCons (eOp bIx (eVar 0) (eK (.int 3))) aNil)))))
def m_law_made : List T → VH → Res T := defM 1 1 s_law_made
def s_law_said : MS := (sRet (eTup (aCons (eCall m_law_text (aCons (eOp bIx (eVar 0) (eK (.int 0))) (aCons (eOp bIx (eVar 0) (eK (.int 1))) aNil))) (aCons (eOp bIx (eVar 0) (eK (.int 2))) (aCons (eOp bIx (eVar 0) (eK (.int 3))) aNil)))))
def m_law_said : List T → VH → Res T := defM 1 1 s_law_said
def s_told_of : MS := (sRet (eTup (aCons (eVar 0) (aCons (eProp 0 m_Board_text (eProp 1 m_Stand_board (eVar 1))) (aCons (eProp 1 m_Stand_first (eVar 1)) (aCons (eProp 1 m_Stand_second (eVar 1)) aNil))))))
def m_told_of : List T → VH → Res T := defM 2 2 s_told_of
def s_certify_weight : MS := (sSeq (sSet 2 (eCall m_weight (aCons (eVar 0) (aCons (eVar 1) aNil))))
  (sRet (eTup (aCons (eTup (aStar (eCall m_told_of (aCons (eK (.str "weight")) (aCons (eVar 0) aNil))) (aCons (eVar 1) (aStar (eVar 2) aNil)))) (aCons (eK .non) aNil)))))
def m_certify_weight : List T → VH → Res T := defM 3 2 s_certify_weight
end K66
namespace TL
open PySem PySem.Spec L2 PyProof.Rows
end TL
namespace TL
open PySem PySem.Spec L2
end TL
namespace TL
open PySem PySem.Spec L2
end TL
namespace TL
open PySem PySem.Spec L2
end TL
namespace TL
open PySem PySem.Spec L2
end TL
namespace TL
open PySem PySem.Spec L2
end TL
namespace TL
open PySem PySem.Spec L2 PyProof.Rows
end TL
namespace K54
open K58
open K06
open K13 hiding m_law_rows s_law_rows
open K66
open PySem L2 TL
def s_law_heavy : MS := (sSeq (sAsg (eTup (aCons (eK (.int 0)) (aCons (eK (.int 1)) aNil))) (mgTup 2 (mgsCons (mgName 2) (mgsCons (mgName 3) mgsNil))))
  (sSeq (sFor (iSeqC (eCall m_law_lots (aCons (eVar 0) aNil))) (mgTup 2 (mgsCons (mgName 4) (mgsCons (mgName 5) mgsNil))) (sSeq (sSet 6 (eK (.int 1)))
  (sSeq (sFor (iSeqC (eVar 5)) (mgName 7) (sSet 6 (eOp bMul (eVar 6) (eOp bAdd (eVar 1) (eK (.int 1))))))
  (sSeq (sPar 2 3 (aCons (eOp bAdd (eOp bMul (eVar 2) (eVar 6)) (eVar 3)) (aCons (eOp bMul (eVar 3) (eVar 6)) aNil)))
  (sSeq (sSet 8 (eCall m_law_common (aCons (eVar 2) (aCons (eVar 3) aNil))))
  (sPar 2 3 (aCons (eOp bFdvW (eVar 2) (eVar 8)) (aCons (eOp bFdvW (eVar 3) (eVar 8)) aNil))))))))
  (sRet (eTup (aCons (eVar 2) (aCons (eVar 3) aNil))))))
def m_law_heavy : List T → VH → Res T := cutM (defM 9 2 s_law_heavy)
def s_law_right : MS := (sSeq (sFor (iRange1 (aCons (eK (.int 8)) aNil)) (mgName 1) (sSeq (sSet 2 (eCall m_law_of (aCons (eVar 0) (aCons (eL (aLim (aCons (eK (.int 1)) (aCons (eK (.int 2)) (aCons (eK (.int 4)) (aCons (eK (.int 9)) (aCons (eK (.int 30)) aNil))))))) aNil))))
  (sSeq (sSet 3 (eCall m_law_frame (aCons (eVar 0) (aCons (eVar 2) (aCons (eCall m_law_of (aCons (eVar 0) (aCons (eL (aLim (aCons (eK (.int 0)) (aCons (eK (.int 3)) (aCons (eK (.int 8)) (aCons (eK (.int 30)) aNil)))))) aNil))) (aCons (eCall m_law_of (aCons (eVar 0) (aCons (eL (aLim (aCons (eK (.int 0)) (aCons (eK (.int 2)) (aCons (eVar 2) aNil))))) aNil))) aNil))))))
  (sSeq (sPar 4 5 (aCons (eOp bAdd (eK (.int 1)) (eCall m_law_take (aCons (eVar 0) (aCons (eK (.int 9)) aNil)))) (aCons (eCall m_law_made (aCons (eVar 3) aNil)) aNil)))
  (sSeq (sSet 6 (eCall m_law_heavy (aCons (eVar 3) (aCons (eVar 4) aNil))))
  (sSeq (sIf (bTest (eOp bNe (eCall m_weight (aCons (eVar 5) (aCons (eVar 4) aNil))) (eVar 6))) (sRet (eK (.bl false))) sNil)
  (sSeq (sSet 7 (eOp bAdd (eTup (aCons (eK (.str "weight")) aNil)) (eCall m_law_said (aCons (eVar 3) aNil))))
  (sSeq (sIf (bNot (bTest (eCall m_law_judge (aCons (eOp bAdd (eOp bAdd (eVar 7) (eTup (aCons (eVar 4) aNil))) (eVar 6)) (aCons (eK .non) (aCons (eK (.bl true)) aNil)))))) (sRet (eK (.bl false))) sNil)
  (sSeq (sSet 8 (eL (aLim (aCons (eTup (aCons (eOp bMul (eK (.int 2)) (eOp bIx (eVar 6) (eK (.int 0)))) (aCons (eOp bMul (eK (.int 2)) (eOp bIx (eVar 6) (eK (.int 1)))) aNil))) (aCons (eTup (aCons (eOp bAdd (eOp bIx (eVar 6) (eK (.int 0))) (eK (.int 1))) (aCons (eOp bIx (eVar 6) (eK (.int 1))) aNil))) (aCons (eTup (aCons (eOp bIx (eVar 6) (eK (.int 0))) (aCons (eOp bAdd (eOp bIx (eVar 6) (eK (.int 1))) (eK (.int 1))) aNil))) aNil))))))
  (sSeq (sSet 8 (eOp bAdd (eVar 8) (eL (aLim (aCons (eTup (aCons (eNeg (eOp bIx (eVar 6) (eK (.int 0)))) (aCons (eNeg (eOp bIx (eVar 6) (eK (.int 1)))) aNil))) (aCons (eTup (aCons (eOp bIx (eVar 6) (eK (.int 0))) (aCons (eK (.int 0)) aNil))) aNil))))))
  (sSeq (sSet 8 (eOp bAdd (eVar 8) (eL (aLim (aCons (eTup (aCons (eOp bIx (eVar 6) (eK (.int 0))) (aCons (eK .non) aNil))) (aCons (eTup (aCons (eK .non) (aCons (eOp bIx (eVar 6) (eK (.int 1))) aNil))) (aCons (eTup (aCons (eCall fStr (aCons (eOp bIx (eVar 6) (eK (.int 0))) aNil)) (aCons (eOp bIx (eVar 6) (eK (.int 1))) aNil))) aNil)))))))
  (sSeq (sSet 8 (eOp bAdd (eVar 8) (eL (aLim (aCons (eTup (aCons (eOp bIx (eVar 6) (eK (.int 1))) (aCons (eOp bIx (eVar 6) (eK (.int 0))) aNil))) (aCons (eTup (aCons (eK (.int 0)) (aCons (eK (.int 2)) aNil))) (aCons (eTup (aCons (eK (.int 0)) (aCons (eK (.int 1)) aNil))) aNil)))))))
  (sSeq (sFor (iSeqC (eVar 8)) (mgName 9) (sIf (bNot (bTest (eCall m_law_judge (aCons (eOp bAdd (eOp bAdd (eVar 7) (eTup (aCons (eVar 4) aNil))) (eVar 9)) (aCons (eK .non) (aCons (eOp bEq (eCall fRepr (aCons (eVar 9) aNil)) (eCall fRepr (aCons (eVar 6) aNil))) aNil)))))) (sRet (eK (.bl false))) sNil))
  (sSeq (sFor (iSeqC (eL (aLim (aCons (eK (.int 0)) (aCons (eK (.int 10)) (aCons (eNeg (eVar 4)) (aCons (eK .non) (aCons (eK (.bl true)) (aCons (eK (.str "1")) (aCons (eTup (aCons (eVar 4) aNil)) aNil)))))))))) (mgName 10) (sIf (bNot (bTest (eCall m_law_judge (aCons (eOp bAdd (eOp bAdd (eVar 7) (eTup (aCons (eVar 10) aNil))) (eVar 6)) (aCons (eK .non) (aCons (eK (.bl false)) aNil)))))) (sRet (eK (.bl false))) sNil))
  (sFor (iSeqC (eL (aLim (aCons (eTup aNil) (aCons (eK (.int 0)) (aCons (eK (.bl false)) (aCons (eK (.str "")) (aCons (eVar 6) (aCons (eTup (aCons (eK .non) aNil)) (aCons eDNew aNil)))))))))) (mgName 11) (sIf (bNot (bTest (eCall m_law_judge (aCons (eOp bAdd (eOp bAdd (eVar 7) (eTup (aCons (eVar 4) aNil))) (eVar 6)) (aCons (eVar 11) (aCons (eK (.bl false)) aNil)))))) (sRet (eK (.bl false))) sNil))))))))))))))))
  (sRet (eK (.bl true))))
def m_law_right : List T → VH → Res T := defM 12 1 s_law_right
def s_law : MS := (sRet (eCall fAll (aCons (eL (mLc (iRange1 (aCons (eCall fMax2 (aCons (eK (.int 2)) (aCons (eCall fMin2 (aCons (eCall fLen (aCons (eVar 0) aNil)) (aCons (eK (.int 5)) aNil))) aNil))) aNil)) [1] (mgName 1) bYes (eCall m_law_right (aCons (eCall m_law_bag (aCons (eVar 0) (aCons (eVar 1) aNil))) aNil)))) aNil)))
def m_law : List T → VH → Res T := defM 2 1 s_law
end K54
namespace TL
open PySem PySem.Spec L2
def obsL (as : List Addr) (fa : List He.Fa) (fn : List He.DefD) (ts : List He.Tab) (ex : PySem.W.Frag → Bool) (ps : List PrD) (g : Addr → Option Obj) : He.AlX × List FnV := ((He.obsT fa fn ts (He.frT g as), ex (He.frT g as)), ps.map (prW (He.frT g as)))
def hookL (as : List Addr) (fa : List He.Fa) (fn : List He.DefD) (ts : List He.Tab) (ex : PySem.W.Frag → Bool) (ps : List PrD) : PySem.W.Hook where
  α := He.AlX × List FnV
  obs := fun s => obsL as fa fn ts ex ps s.heap.get?
  val := fun w => (He.valX fn ts w, ps.map PrD.val)
  says := fun w h => ∃ K : PySem.W.Frag, K.In h ∧ He.SaysX fa fn ts [] ex w h K ∧ ps.map (prW K) = ps.map PrD.val
  of := fun _ _ e => ⟨_, He.frT_in, ⟨congrArg (fun z : He.AlX × List FnV => z.1.1) e, congrArg (fun z : He.AlX × List FnV => z.1.2) e, fun _ hp => (by cases hp), fun _ hp => (by cases hp), fun _ hp => (by cases hp)⟩, congrArg Prod.snd e⟩
  keeps := fun _ _ _ ⟨K, i, c, q⟩ k => ⟨K, i.keeps k, ⟨c.t, c.more, c.hd, c.out, fun p hp => k _ _ (c.empty p hp)⟩, q⟩
theorem obsL_eq {as : List Addr} {fa : List He.Fa} {fn : List He.DefD} {ts : List He.Tab} {ex : PySem.W.Frag → Bool} {ps : List PrD} {g : Addr → Option Obj} {s : Shared} (h : ∀ a, g a = s.heap.get? a) : obsL as fa fn ts ex ps g = (hookL as fa fn ts ex ps).obs s := by
  obtain rfl : g = s.heap.get? := funext h
  rfl
open PySem.W PySem.Calls PyProof.Rows HandSHeadRun
def RunA (r : OpenRow) (q : Program) (M : Nat) (loose : List Str) (w : World) : Prop :=
  ∀ os : OsState, (endF (stepQ (denQ tabQ) r.prog w) M r.prog w os).map (fun s => (looksF r.prog (boot_heap w.params) s.abs, seenQ q loose (importedModules r.prog.main.body) (fun s => xlAt q [] s && recOk r.toRowW.records s) s.abs)) = some (true, openGood q loose)
def RunC (r : OpenRow) (H : PySem.W.Hook) (ob : SharedT → H.α) (M : Nat) (w : World) : Prop := ∀ os : OsState, (endF (stepQ (denQ tabQ) r.prog w) M r.prog w os).map ob = some (H.val w)
theorem run_parts {α β γ δ : Type} {o : Option α} {f : α → β} {g : α → γ} {k : α → δ} {a : β} {b : γ} {c : δ} (h1 : o.map (fun s => (f s, g s)) = some (a, b)) (h3 : o.map k = some c) : o.map (fun s => (f s, g s, k s)) = some (a, b, c) := by
  cases o with
  | none => cases h1
  | some s =>
    have e := Option.some.inj h1
    injection e with e1 e2
    have e3 := Option.some.inj h3
    show some (f s, g s, k s) = _
    rw [e1, e2, e3]
theorem run_join {r : OpenRow} {q : Program} {H : PySem.W.Hook} {ob : SharedT → H.α} {M : Nat} {loose : List Str} {w : World} (h1 : RunA r q M loose w) (h2 : RunC r H ob M w) : RunEq r q H ob M loose w := fun os => run_parts (h1 os) (h2 os)
end TL
namespace TL
open PySem PySem.Spec L2
open PySem.W PySem.Calls PyProof.Rows HandSHeadRun
end TL
namespace K54
open K58
open K06
open K13 hiding m_law_rows s_law_rows
open K66
open PySem PySem.Spec L2 TL
def top (i : Nat) : Stmt := PySem.Challenge.pw_pairheld_k54_whole_weights_judged.main.body.getD i (.Pass ⟨0, 0, 0, 0⟩)
def mth (i j : Nat) : Stmt := match top i with
  | .ClassDef _ _ _ b _ _ _ _ _ _ _ => b.getD j (.Pass ⟨0, 0, 0, 0⟩)
  | _ => .Pass ⟨0, 0, 0, 0⟩
def cl : ClT := [(0, "Board", ["written", "many", "rows"]), (1, "Stand", ["base", "mine", "others"]), (10, "Sheet", ["space", "left"])]
def wd (w : World) (K : PySem.W.Frag) : Wd := wdOf w cl K
theorem fn_lt_Board {w : World} {K : PySem.W.Frag} : ((wd w K).fn 0).length < 1000 := (show (["written", "many", "rows"] : List Str).length < 1000 by decide)
theorem fn_nd_Board {w : World} {K : PySem.W.Frag} : ((wd w K).fn 0).Nodup := (show (["written", "many", "rows"] : List Str).Nodup by decide)
theorem fn_lt_Stand {w : World} {K : PySem.W.Frag} : ((wd w K).fn 1).length < 1000 := (show (["base", "mine", "others"] : List Str).length < 1000 by decide)
theorem fn_nd_Stand {w : World} {K : PySem.W.Frag} : ((wd w K).fn 1).Nodup := (show (["base", "mine", "others"] : List Str).Nodup by decide)
theorem fn_lt_Sheet {w : World} {K : PySem.W.Frag} : ((wd w K).fn 10).length < 1000 := (show (["space", "left"] : List Str).length < 1000 by decide)
theorem fn_nd_Sheet {w : World} {K : PySem.W.Frag} : ((wd w K).fn 10).Nodup := (show (["space", "left"] : List Str).Nodup by decide)
open PyProof.Rows
def fa0 : List He.Fa := [.free "abs", .free "all", .free "any", .free "bool", .free "divmod", .free "enumerate", .free "int", .free "isinstance", .free "len", .free "list", .free "max", .free "min", .free "range", .free "repr", .free "set", .free "sorted", .free "str", .free "sum", .free "tuple", .free "zip", .glo "_law_bag", .glo "_law_take", .glo "_law_of", .glo "_law_rows", .glo "_law_frame", .glo "_law_common", .glo "_law_lots", .glo "_law_heavy", .glo "has_divisor", .glo "is_whole"]
def fa1 : List He.Fa := [.glo "power_sheets", .glo "is_weight", .glo "is_rising", .glo "are_cells", .glo "number_told", .glo "line_told", .glo "board_told", .glo "sheet_told", .glo "shows_stand", .glo "accepts", .glo "_law_judge", .glo "number_in", .glo "line_in", .glo "lines_in", .glo "board_in", .glo "check_board", .glo "is_integer", .glo "is_between", .glo "check_cells", .glo "_law_text", .glo "_law_made", .glo "_law_said", .glo "is_live", .glo "rest_of", .glo "check_many", .glo "check_stand", .glo "divisor", .glo "reduced", .glo "power_weights", .glo "weight_of"]
def fa2 : List He.Fa := [.glo "weight", .glo "_law_right", .glo "law", .glo "Board", .cls "Board", .mkr "Board", .glo "Stand", .cls "Stand", .mkr "Stand", .glo "Sheet", .cls "Sheet", .mkr "Sheet", .noat "Board" "many", .noat "Board" "rows", .noat "Board" "written", .noat "Sheet" "left", .noat "Sheet" "space", .noat "Stand" "base", .noat "Stand" "mine", .noat "Stand" "others", .meth "Sheet" "lots", .str "DIGITS_names" "0123456789", .str "DIGITS_sheets" "0123456789", .int "MOST_CELLS" 30, .int "MOST_LINES" 30, .int "MOST_MANY" 9, .glo "SIZES"]
def fa : List He.Fa := fa0 ++ fa1 ++ fa2
def ts : List He.Tab := [((fun K => He.ga K "SIZES"), ["own", "pairs", "lacks", "weight", "forced", "makes", "holds", "held", "free"])]
def pr_Board_size : PrD := ⟨"Board", "size", "Board.size", defArgs (mth 70 2), defBody (mth 70 2), defScope (mth 70 2)⟩
def pr_Stand_free : PrD := ⟨"Stand", "free", "Stand.free", defArgs (mth 75 4), defBody (mth 75 4), defScope (mth 75 4)⟩
def pr_Stand_rests : PrD := ⟨"Stand", "rests", "Stand.rests", defArgs (mth 75 6), defBody (mth 75 6), defScope (mth 75 6)⟩
def prs : List PrD := [pr_Board_size, pr_Stand_free, pr_Stand_rests]
def exs (K : PySem.W.Frag) : List Bool := [cfB K (He.ga K "Board"), cfB K (He.ga K "Stand"), cfB K (He.ga K "Sheet"), isiChk cl K (.ref (He.ga K "Board")) (.o 0), isiChk cl K (.ref (He.ga K "Stand")) (.o 1), isiChk cl K (.type "bool") (.b "bool"), isiChk cl K (.type "int") (.b "int"), isiChk cl K (.type "str") (.b "str"), isiChk cl K (.type "tuple") (.b "tuple"), kdB K "SIZES" kv_SIZES, prB K pr_Board_size, prB K pr_Stand_free, prB K pr_Stand_rests]
def ex (K : PySem.W.Frag) : Bool := (exs K).all id
def d_law_bag : He.DefD := ⟨("_law_bag", none), "_law_bag", "_law_bag", defArgs (top 91), defBody (top 91), defScope (top 91), [], []⟩
def d_law_take : He.DefD := ⟨("_law_take", none), "_law_take", "_law_take", defArgs (top 92), defBody (top 92), defScope (top 92), [], []⟩
def d_law_of : He.DefD := ⟨("_law_of", none), "_law_of", "_law_of", defArgs (top 93), defBody (top 93), defScope (top 93), [], []⟩
def d_law_rows : He.DefD := ⟨("_law_rows", none), "_law_rows", "_law_rows", defArgs (top 94), defBody (top 94), defScope (top 94), [], []⟩
def d_law_frame : He.DefD := ⟨("_law_frame", none), "_law_frame", "_law_frame", defArgs (top 95), defBody (top 95), defScope (top 95), [], []⟩
def d_law_common : He.DefD := ⟨("_law_common", none), "_law_common", "_law_common", defArgs (top 101), defBody (top 101), defScope (top 101), [], []⟩
def d_law_lots : He.DefD := ⟨("_law_lots", none), "_law_lots", "_law_lots", defArgs (top 99), defBody (top 99), defScope (top 99), [], []⟩
def d_law_heavy : He.DefD := ⟨("_law_heavy", none), "_law_heavy", "_law_heavy", defArgs (top 102), defBody (top 102), defScope (top 102), [], []⟩
def d_Sheet_lots : He.DefD := ⟨("Sheet", some "lots"), "lots", "Sheet.lots", defArgs (mth 15 1), defBody (mth 15 1), defScope (mth 15 1), [], []⟩
def d_has_divisor : He.DefD := ⟨("has_divisor", none), "has_divisor", "has_divisor", defArgs (top 45), defBody (top 45), defScope (top 45), [], []⟩
def d_is_whole : He.DefD := ⟨("is_whole", none), "is_whole", "is_whole", defArgs (top 7), defBody (top 7), defScope (top 7), [], []⟩
def d_power_sheets : He.DefD := ⟨("power_sheets", none), "power", "power", defArgs (top 8), defBody (top 8), defScope (top 8), [], []⟩
def d_is_weight : He.DefD := ⟨("is_weight", none), "is_weight", "is_weight", defArgs (top 44), defBody (top 44), defScope (top 44), [], []⟩
def d_Sheet___init__ : He.DefD := ⟨("Sheet", some "__init__"), "__init__", "Sheet.__init__", defArgs (mth 15 0), defBody (mth 15 0), defScope (mth 15 0), [], []⟩
def d_is_rising : He.DefD := ⟨("is_rising", none), "is_rising", "is_rising", defArgs (top 12), defBody (top 12), defScope (top 12), [], []⟩
def d_are_cells : He.DefD := ⟨("are_cells", none), "are_cells", "are_cells", defArgs (top 14), defBody (top 14), defScope (top 14), [], []⟩
def d_number_told : He.DefD := ⟨("number_told", none), "number_told", "number_told", defArgs (top 10), defBody (top 10), defScope (top 10), [], []⟩
def d_line_told : He.DefD := ⟨("line_told", none), "line_told", "line_told", defArgs (top 11), defBody (top 11), defScope (top 11), [], []⟩
def d_board_told : He.DefD := ⟨("board_told", none), "board_told", "board_told", defArgs (top 13), defBody (top 13), defScope (top 13), [], []⟩
def d_sheet_told : He.DefD := ⟨("sheet_told", none), "sheet_told", "sheet_told", defArgs (top 16), defBody (top 16), defScope (top 16), [], []⟩
def d_shows_stand : He.DefD := ⟨("shows_stand", none), "shows_stand", "shows_stand", defArgs (top 47), defBody (top 47), defScope (top 47), [], []⟩
def d_accepts : He.DefD := ⟨("accepts", none), "accepts", "accepts", defArgs (top 49), defBody (top 49), defScope (top 49), [], []⟩
def d_law_judge : He.DefD := ⟨("_law_judge", none), "_law_judge", "_law_judge", defArgs (top 100), defBody (top 100), defScope (top 100), [], []⟩
def d_number_in : He.DefD := ⟨("number_in", none), "number_in", "number_in", defArgs (top 64), defBody (top 64), defScope (top 64), [], []⟩
def d_line_in : He.DefD := ⟨("line_in", none), "line_in", "line_in", defArgs (top 66), defBody (top 66), defScope (top 66), [], []⟩
def d_lines_in : He.DefD := ⟨("lines_in", none), "lines_in", "lines_in", defArgs (top 67), defBody (top 67), defScope (top 67), [], []⟩
def d_board_in : He.DefD := ⟨("board_in", none), "board_in", "board_in", defArgs (top 68), defBody (top 68), defScope (top 68), [], []⟩
def d_Board___init__ : He.DefD := ⟨("Board", some "__init__"), "__init__", "Board.__init__", defArgs (mth 70 0), defBody (mth 70 0), defScope (mth 70 0), [], []⟩
def d_check_board : He.DefD := ⟨("check_board", none), "check_board", "check_board", defArgs (top 71), defBody (top 71), defScope (top 71), [], []⟩
def d_is_integer : He.DefD := ⟨("is_integer", none), "is_integer", "is_integer", defArgs (top 62), defBody (top 62), defScope (top 62), [], []⟩
def d_is_between : He.DefD := ⟨("is_between", none), "is_between", "is_between", defArgs (top 63), defBody (top 63), defScope (top 63), [], []⟩
def d_check_cells : He.DefD := ⟨("check_cells", none), "check_cells", "check_cells", defArgs (top 73), defBody (top 73), defScope (top 73), [], []⟩
def d_Stand___init__ : He.DefD := ⟨("Stand", some "__init__"), "__init__", "Stand.__init__", defArgs (mth 75 0), defBody (mth 75 0), defScope (mth 75 0), [], []⟩
def d_law_text : He.DefD := ⟨("_law_text", none), "_law_text", "_law_text", defArgs (top 96), defBody (top 96), defScope (top 96), [], []⟩
def d_law_made : He.DefD := ⟨("_law_made", none), "_law_made", "_law_made", defArgs (top 98), defBody (top 98), defScope (top 98), [], []⟩
def d_law_said : He.DefD := ⟨("_law_said", none), "_law_said", "_law_said", defArgs (top 97), defBody (top 97), defScope (top 97), [], []⟩
def d_is_live : He.DefD := ⟨("is_live", none), "is_live", "is_live", defArgs (top 76), defBody (top 76), defScope (top 76), [], []⟩
def d_rest_of : He.DefD := ⟨("rest_of", none), "rest_of", "rest_of", defArgs (top 77), defBody (top 77), defScope (top 77), [], []⟩
def d_check_many : He.DefD := ⟨("check_many", none), "check_many", "check_many", defArgs (top 83), defBody (top 83), defScope (top 83), [], []⟩
def d_check_stand : He.DefD := ⟨("check_stand", none), "check_stand", "check_stand", defArgs (top 79), defBody (top 79), defScope (top 79), [], []⟩
def d_divisor : He.DefD := ⟨("divisor", none), "divisor", "divisor", defArgs (top 84), defBody (top 84), defScope (top 84), [], []⟩
def d_reduced : He.DefD := ⟨("reduced", none), "reduced", "reduced", defArgs (top 88), defBody (top 88), defScope (top 88), [], []⟩
def d_power : He.DefD := ⟨("power_weights", none), "power", "power", defArgs (top 85), defBody (top 85), defScope (top 85), [], []⟩
def d_weight_of : He.DefD := ⟨("weight_of", none), "weight_of", "weight_of", defArgs (top 87), defBody (top 87), defScope (top 87), [], []⟩
def d_weight : He.DefD := ⟨("weight", none), "weight", "weight", defArgs (top 89), defBody (top 89), defScope (top 89), [], []⟩
def d_law_right : He.DefD := ⟨("_law_right", none), "_law_right", "_law_right", defArgs (top 103), defBody (top 103), defScope (top 103), [], []⟩
def d_law : He.DefD := ⟨("law", none), "law", "law", defArgs (top 104), defBody (top 104), defScope (top 104), [], []⟩
def fn0 : List He.DefD := [d_law_bag, d_law_take, d_law_of, d_law_rows, d_law_frame, d_law_common, d_law_lots, d_law_heavy, d_Sheet_lots, d_has_divisor, d_is_whole, d_power_sheets, d_is_weight, d_Sheet___init__, d_is_rising, d_are_cells, d_number_told, d_line_told, d_board_told, d_sheet_told, d_shows_stand, d_accepts, d_law_judge, d_number_in, d_line_in, d_lines_in, d_board_in, d_Board___init__, d_check_board, d_is_integer]
def fn1 : List He.DefD := [d_is_between, d_check_cells, d_Stand___init__, d_law_text, d_law_made, d_law_said, d_is_live, d_rest_of, d_check_many, d_check_stand, d_divisor, d_reduced, d_power, d_weight_of, d_weight, d_law_right, d_law]
def fn : List He.DefD := fn0 ++ fn1
abbrev R : PySem.W.OpenRow := PySem.W.OpenLaw.row PySem.Challenge.rw_pairheld_k54_whole_weights_judged
def as0 : List Addr := [3, 6, 4, 21, 28, 767, 35, 40, 45, 50, 55, 60, 80, 89, 94, 99, 104, 109, 140, 149, 154, 159, 160, 169, 174, 181, 188, 193, 200, 207, 208, 215, 220, 227, 232, 237, 242, 247, 254, 261]
def as1 : List Addr := [268, 273, 280, 290, 310, 329, 348, 367, 386, 405, 424, 443, 452, 459, 464, 469, 474, 481, 486, 584, 595, 602, 609, 704, 713, 718, 725, 732, 739, 746, 753, 760, 772, 779, 786, 793, 800, 807, 812, 819]
def as2 : List Addr := [824, 831, 838, 843, 850, 857, 864, 871, 876, 0, 20, 27, 766, 34, 39, 44, 49, 54, 59, 79, 88, 93, 98, 103, 108, 139, 148, 153, 158, 161, 162, 163, 164, 165, 166, 167, 168, 173, 180, 187]
def as3 : List Addr := [192, 199, 206, 214, 219, 226, 231, 236, 241, 246, 253, 260, 267, 272, 279, 289, 309, 328, 347, 366, 385, 404, 423, 442, 451, 458, 463, 468, 473, 480, 485, 583, 594, 601, 608, 703, 712, 717, 724, 731]
def as4 : List Addr := [738, 745, 752, 759, 771, 778, 785, 792, 799, 806, 811, 818, 823, 830, 837, 842, 849, 856, 863, 870, 875, 15, 17, 18, 19, 22, 24, 25, 26, 761, 763, 764, 765, 29, 31, 32, 33, 36, 38, 41]
def as5 : List Addr := [43, 46, 48, 51, 53, 56, 58, 72, 77, 78, 81, 82, 85, 87, 90, 92, 95, 97, 100, 102, 105, 107, 123, 130, 137, 138, 141, 142, 145, 147, 150, 152, 155, 157, 170, 172, 175, 177, 178, 179]
def as6 : List Addr := [182, 184, 185, 186, 189, 191, 194, 196, 197, 198, 201, 203, 204, 205, 209, 211, 212, 213, 216, 218, 221, 223, 224, 225, 228, 230, 233, 235, 238, 240, 243, 245, 248, 250, 251, 252, 255, 257, 258, 259]
def as7 : List Addr := [262, 264, 265, 266, 269, 271, 274, 276, 277, 278, 288, 291, 307, 308, 326, 327, 345, 346, 364, 365, 383, 384, 402, 403, 421, 422, 440, 441, 446, 448, 449, 450, 453, 455, 456, 457, 460, 462, 465, 467]
def as8 : List Addr := [470, 472, 475, 477, 478, 479, 482, 484, 500, 508, 516, 524, 532, 539, 546, 553, 560, 567, 574, 581, 582, 585, 586, 589, 591, 592, 593, 596, 598, 599, 600, 603, 605, 606, 607, 623, 631, 639, 647, 653]
def as9 : List Addr := [659, 665, 673, 680, 687, 694, 701, 702, 705, 706, 709, 711, 714, 716, 719, 721, 722, 723, 726, 728, 729, 730, 733, 735, 736, 737, 740, 742, 743, 744, 747, 749, 750, 751, 754, 756, 757, 758, 768, 770]
def as10 : List Addr := [773, 775, 776, 777, 780, 782, 783, 784, 787, 789, 790, 791, 794, 796, 797, 798, 801, 803, 804, 805, 808, 810, 813, 815, 816, 817, 820, 822, 825, 827, 828, 829, 832, 834, 835, 836, 839, 841, 844, 846]
def as11 : List Addr := [847, 848, 851, 853, 854, 855, 858, 860, 861, 862, 865, 867, 868, 869, 872, 874, 71, 76, 122, 129, 136, 306, 325, 344, 363, 382, 401, 420, 439, 499, 507, 515, 523, 531, 538, 545, 552, 559, 566, 573]
def as12 : List Addr := [580, 622, 630, 638, 646, 652, 658, 664, 672, 679, 686, 693, 700, 68, 70, 73, 75, 117, 119, 120, 121, 124, 126, 127, 128, 131, 133, 134, 135, 301, 303, 304, 305, 320, 322, 323, 324, 339, 341, 342]
def as13 : List Addr := [343, 358, 360, 361, 362, 377, 379, 380, 381, 396, 398, 399, 400, 415, 417, 418, 419, 434, 436, 437, 438, 494, 496, 497, 498, 506, 514, 522, 530, 533, 535, 536, 537, 540, 542, 543, 544, 547, 549, 550]
def as14 : List Addr := [551, 554, 556, 557, 558, 561, 563, 564, 565, 568, 570, 571, 572, 575, 577, 578, 579, 617, 619, 620, 621, 629, 637, 645, 651, 657, 663, 671, 674, 676, 677, 678, 681, 683, 684, 685, 688, 690, 691, 692]
def as15 : List Addr := [695, 697, 698, 699]
def asL : List Addr := as0 ++ as1 ++ as2 ++ as3 ++ as4 ++ as5 ++ as6 ++ as7 ++ as8 ++ as9 ++ as10 ++ as11 ++ as12 ++ as13 ++ as14 ++ as15
abbrev hk : PySem.W.Hook := hookL asL fa fn ts ex prs
def ob (s : PySem.W.SharedT) : He.AlX × List FnV := obsL asL fa fn ts ex prs (HandSHeadRun.getT s)
theorem ob_eq (s : PySem.W.SharedT) : ob s = hk.obs s.abs := obsL_eq (HandSHeadRun.getT_eq s)
def lo0 : List Str := ["_wall", "MOST_CELLS", "MOST_LINES", "MOST_FREE", "MOST_SIDE", "__name__", "DIGITS_sheets", "is_whole", "power", "power_sheets", "number_told", "line_told", "is_rising", "board_told", "are_cells", "Sheet", "sheet_told", "bits_of", "after_mine", "after_its", "bits_in", "Outcomes", "is_made_by", "replies_to", "is_row_of_threats", "STEPS", "FIGURE_OF", "rows_told", "sign_at", "is_mutual_at"]
def lo1 : List Str := ["tile_told", "free_from", "has_free", "SIZES", "MOST_MANY", "is_number", "are_twos", "is_within", "shows_own", "shows_pairs", "shows_lack", "is_weight", "has_divisor", "is_play", "shows_stand", "shows_pattern", "accepts", "WrongValue", "InvalidText", "InvalidNumber", "InvalidIndex", "InvalidCell", "InvalidMover", "NotABoard", "NotAStand", "InvalidCells", "DIGITS_names", "is_integer", "is_between", "number_in"]
def lo2 : List Str := ["line_in", "lines_in", "board_in", "board_text", "Board", "check_board", "check_index", "check_cells", "Stand", "is_live", "rest_of", "behind", "check_stand", "check_mover", "check_free", "check_many", "divisor", "power_weights", "weight_of", "reduced", "weight", "_law_bag", "_law_take", "_law_of", "_law_rows", "_law_frame", "_law_text", "_law_said", "_law_made", "_law_lots"]
def lo3 : List Str := ["_law_judge", "_law_common", "_law_heavy", "_law_right"]
def lo : List Str := lo0 ++ lo1 ++ lo2 ++ lo3
set_option maxHeartbeats 0 in
theorem run_f1 (w : World) : TL.RunA R (PySem.W.view R.prog [104]) 8000 lo (w.withFollow "special-get-raises" false) := by intro os; kernel_rfl
set_option maxHeartbeats 0 in
theorem run_f2 (w : World) : TL.RunC R hk ob 8000 (w.withFollow "special-get-raises" false) := by intro os; kernel_rfl
theorem run_f (w : World) : HandSHeadRun.RunEq R (PySem.W.view R.prog [104]) hk ob 8000 lo (w.withFollow "special-get-raises" false) := TL.run_join (run_f1 w) (run_f2 w)
set_option maxHeartbeats 0 in
theorem run_t1 (w : World) : TL.RunA R (PySem.W.view R.prog [104]) 8000 lo (w.withFollow "special-get-raises" true) := by intro os; kernel_rfl
set_option maxHeartbeats 0 in
theorem run_t2 (w : World) : TL.RunC R hk ob 8000 (w.withFollow "special-get-raises" true) := by intro os; kernel_rfl
theorem run_t (w : World) : HandSHeadRun.RunEq R (PySem.W.view R.prog [104]) hk ob 8000 lo (w.withFollow "special-get-raises" true) := TL.run_join (run_t1 w) (run_t2 w)
theorem run (w : World) : HandSHeadRun.RunEq R (PySem.W.view R.prog [104]) hk ob 8000 lo w :=
  PySem.W.byRow2 "special-get-raises" (P := fun w => HandSHeadRun.RunEq R (PySem.W.view R.prog [104]) hk ob 8000 lo w) run_f run_t w
end K54
namespace KG
def Gap (S : Int → Int → Prop) (dx dy x y : Int) (m : Nat) : Prop := 0 < m ∧ S x y ∧ S (x + m * dx) (y + m * dy) ∧ ∀ j : Nat, 0 < j → j < m → ¬ S (x + j * dx) (y + j * dy)
def IsL (S : Int → Int → Prop) (dx dy : Int) : Option Nat → Prop
  | none => ∃ x y, ∀ k : Int, ¬ S (x + k * dx) (y + k * dy)
  | some M => (∀ x y, ∃ k : Int, S (x + k * dx) (y + k * dy)) ∧ (∃ x y, Gap S dx dy x y M) ∧ ∀ x y m, Gap S dx dy x y m → m ≤ M
theorem IsL.uniq {S : Int → Int → Prop} {dx dy : Int} {r r' : Option Nat} (h : IsL S dx dy r) (h' : IsL S dx dy r') : r = r' := by
  cases r with
  | none =>
    cases r' with
    | none => rfl
    | some M =>
      obtain ⟨x, y, n⟩ := h
      obtain ⟨k, hk⟩ := h'.1 x y
      exact (n k hk).elim
  | some M =>
    cases r' with
    | none =>
      obtain ⟨x, y, n⟩ := h'
      obtain ⟨k, hk⟩ := h.1 x y
      exact (n k hk).elim
    | some M' =>
      obtain ⟨_, ⟨x, y, g⟩, u⟩ := h
      obtain ⟨_, ⟨x', y', g'⟩, u'⟩ := h'
      have a := u' x y M g
      have b := u x' y' M' g'
      have : M = M' := by omega
      rw [this]
theorem IsL.map {S S' : Int → Int → Prop} {dx dy dx' dy' : Int} (p q : Int → Int → Int) (hS : ∀ x y, S' x y ↔ S (p x y) (q x y)) (h1 : ∀ x y k, p (x + k * dx') (y + k * dy') = p x y + k * dx) (h2 : ∀ x y k, q (x + k * dx') (y + k * dy') = q x y + k * dy)
    (sur : ∀ u v, ∃ x y, p x y = u ∧ q x y = v) {r : Option Nat} (h : IsL S' dx' dy' r) : IsL S dx dy r := by
  have gp : ∀ x y m, Gap S' dx' dy' x y m ↔ Gap S dx dy (p x y) (q x y) m := fun x y m => by
    unfold Gap
    simp only [hS, h1, h2]
  cases r with
  | none =>
    obtain ⟨x, y, n⟩ := h
    refine ⟨p x y, q x y, fun k => ?_⟩
    rw [← h1, ← h2, ← hS]
    exact n k
  | some M =>
    obtain ⟨a, ⟨x, y, g⟩, u⟩ := h
    refine ⟨fun s t => ?_, ⟨p x y, q x y, (gp x y M).mp g⟩, fun s t m hg => ?_⟩
    · obtain ⟨x, y, rfl, rfl⟩ := sur s t
      obtain ⟨k, hk⟩ := a x y
      exact ⟨k, by rw [← h1, ← h2, ← hS]; exact hk⟩
    · obtain ⟨x, y, rfl, rfl⟩ := sur s t
      exact u x y m ((gp x y m).mpr hg)
end KG
namespace TL
open PySem PySem.Spec L2
section
variable {τ : TS_} {h h1 : VH} {p q : Bool} {c d : MB} {f g k : ME} {b b' : T → T → VH → Res T} {x y z t : T}
theorem hNot (e : c τ h = .ok p h1) : bNot c τ h = .ok (!p) h1 := by unfold bNot; simp only [e]
theorem hOr (e1 : c τ h = .ok p h) (e2 : p = false → d τ h = .ok q h) : bOr c d τ h = .ok (p || q) h := by
  unfold bOr
  rw [e1]
  cases p
  · simp [e2 rfl]
  · rfl
theorem hAnd (e1 : c τ h = .ok p h) (e2 : p = true → d τ h = .ok q h) : bAnd c d τ h = .ok (p && q) h := by
  unfold bAnd
  rw [e1]
  cases p
  · rfl
  · simp [e2 rfl]
theorem hEand (e1 : f τ h = .ok (.bl p) h) (e2 : p = true → g τ h = .ok (.bl q) h) : eAnd f g τ h = .ok (.bl (p && q)) h := by
  unfold eAnd
  rw [e1]
  cases p
  · rfl
  · simp [e2 rfl]
theorem hEnot (e1 : f τ h = .ok (.bl p) h) : eNot f τ h = .ok (.bl (!p)) h := by
  unfold eNot
  rw [e1]
theorem hIfT (e : c τ h = .ok true h1) : eIf c f g τ h = f τ h1 := by unfold eIf; rw [e]
theorem hIfF (e : c τ h = .ok false h1) : eIf c f g τ h = g τ h1 := by unfold eIf; rw [e]
theorem hChain (e1 : f τ h = .ok x h) (e2 : g τ h = .ok y h) (e3 : b x y h = .ok (.bl p) h) (e4 : k τ h = .ok z h) (e5 : b' y z h = .ok (.bl q) h) : eChain b b' f g k τ h = .ok (.bl (p && q)) h := by
  unfold eChain
  simp only [e1, e2, e3]
  cases p <;> simp [e4, e5]
theorem hLt (i j : Int) (h : VH) : bLt (.int i) (.int j) h = .ok (.bl (decide (i < j))) h := rfl
theorem hLe (i j : Int) (h : VH) : bLe (.int i) (.int j) h = .ok (.bl (decide (i ≤ j))) h := rfl
theorem hGt (i j : Int) (h : VH) : bGt (.int i) (.int j) h = .ok (.bl (decide (j < i))) h := rfl
theorem hGe (i j : Int) (h : VH) : bGe (.int i) (.int j) h = .ok (.bl (decide (j ≤ i))) h := rfl
theorem hAdd (i j : Int) (h : VH) : bAdd (.int i) (.int j) h = .ok (.int (i + j)) h := rfl
theorem hSub (i j : Int) (h : VH) : bSub (.int i) (.int j) h = .ok (.int (i - j)) h := rfl
theorem hEq (i j : Int) (h : VH) : bEq (.int i) (.int j) h = .ok (.bl (decide (i = j))) h := by
  unfold bEq bEqG
  simp only [dat_int, PyData.eqv]
  by_cases e : i = j
  · simp [e]
  · simp [e]
theorem hNe (i j : Int) (h : VH) : bNe (.int i) (.int j) h = .ok (.bl (!decide (i = j))) h := by
  unfold bNe bEqG
  simp only [dat_int, PyData.eqv]
  by_cases e : i = j
  · simp [e]
  · simp [e]
theorem hAppS {u v : Str} (hl : u.length + v.length ≤ 1000000) : bAdd (.str u) (.str v) h = .ok (.str (u ++ v)) h := by unfold bAdd; exact if_pos hl
theorem hInS (n : Nat) (s : Str) : bInS false ⟨#[n]⟩ s = decide (n ∈ s.cps.toList) := by
  unfold bInS
  rw [PySem.StrLaws.found_one, Bool.false_bne]
theorem hAll {α : Type} (l : List α) (f : α → Bool) (h : VH) : fAll [.lst (l.map fun a => T.bl (f a))] h = .ok (.bl (l.all f)) h := by
  have e : blsOf (l.map fun a => T.bl (f a)) = some (l.map f) := by
    induction l with
    | nil => rfl
    | cons a l ih => show (blsOf (l.map fun a => T.bl (f a))).map (f a :: ·) = _; rw [ih]; rfl
  simp only [fAll, fBls, TL.listOf, e]
  rw [List.all_map]
  rfl
theorem hAny {α : Type} (l : List α) (f : α → Bool) (h : VH) : fAny [.lst (l.map fun a => T.bl (f a))] h = .ok (.bl (l.any f)) h := by
  have e : blsOf (l.map fun a => T.bl (f a)) = some (l.map f) := by
    induction l with
    | nil => rfl
    | cons a l ih => show (blsOf (l.map fun a => T.bl (f a))).map (f a :: ·) = _; rw [ih]; rfl
  simp only [fAny, fBls, TL.listOf, e]
  rw [List.any_map]
  rfl
theorem hLenS {u : Str} (e : f τ h = .ok (.str u) h) : eCall fLen (aCons f aNil) τ h = .ok (.int (u.length : Nat)) h := (call_ok (b := fLen) (cons_ok e rfl)).trans rfl
theorem hLenL {ts : List T} (e : f τ h = .ok (.lst ts) h) : eCall fLen (aCons f aNil) τ h = .ok (.int (ts.length : Nat)) h := (call_ok (b := fLen) (cons_ok e rfl)).trans rfl
theorem hLenT {ts : List T} (e : f τ h = .ok (.tup ts) h) : eCall fLen (aCons f aNil) τ h = .ok (.int (ts.length : Nat)) h := (call_ok (b := fLen) (cons_ok e rfl)).trans rfl
theorem hSplit {u v : Str} {g : ME} (hv : (v.length == 0) = false) (hs : u.length ≤ 100000) (e : f τ h = .ok (.str u) h) (e2 : g τ h = .ok (.str v) h) : eMt "str" mSplit f (aCons g aNil) τ h = .ok (.lst ((Txt.split u v).map T.str)) h := by
  have sh : shortAll (Txt.split u v) = true := by
    unfold shortAll
    rw [List.all_eq_true]
    intro x hx
    have := PyProof.Rows.part_short hx
    exact decide_eq_true (by omega)
  have hz : (Txt.split u v).length ≤ 16777216 := by
    have := PyProof.Rows.split_le u v
    omega
  have tt : tyT h "str" (.str u) = true := by unfold tyT; rfl
  unfold eMt
  simp only [e, tt, if_true, cons_ok e2 (rfl : aNil τ h = .ok [] h), mSplit, hv, hz, sh, and_self]
end
end TL
namespace BD
open PySem L2 TL
def numS (n : Nat) : Str := Str.ofString (toString (n : Int))
theorem num_facts : ∀ n : Fin 31, (numS n).length ≤ 2 ∧ 0 < (numS n).length ∧ ((numS n).cps.toList.all fun c => decide (48 ≤ c) && decide (c ≤ 57)) = true ∧ ((numS n).length > 1 → (numS n).cps.toList.head? ≠ some 48) ∧ intText? (numS n) = some ((n : Nat) : Int) := by decide +kernel
theorem num_len {n : Nat} (h : n ≤ 30) : (numS n).length ≤ 2 ∧ 0 < (numS n).length := ⟨(num_facts ⟨n, by omega⟩).1, (num_facts ⟨n, by omega⟩).2.1⟩
theorem num_dig {n : Nat} (h : n ≤ 30) {c : Nat} (hc : c ∈ tl (numS n)) : 48 ≤ c ∧ c ≤ 57 := by
  have := List.all_eq_true.mp (num_facts ⟨n, by omega⟩).2.2.1 c hc
  simpa using this
theorem num_int {n : Nat} (h : n ≤ 30) : intText? (numS n) = some ((n : Nat) : Int) := (num_facts ⟨n, by omega⟩).2.2.2.2
theorem num_zero {n : Nat} (h : n ≤ 30) (l : (numS n).length > 1) : (numS n).cps.toList.head? ≠ some 48 := (num_facts ⟨n, by omega⟩).2.2.2.1 l
theorem fStr_num {n : Nat} (h : n ≤ 30) (k : VH) : fStr [.int (n : Nat)] k = .ok (.str (numS n)) k := by
  have l := num_len h
  unfold fStr
  refine if_pos ⟨?_, ?_⟩
  · rw [Int.natAbs_natCast]
    rcases Nat.lt_or_ge n.log2 1920 with c | c
    · exact c
    · exfalso
      have p : 2 ^ n.log2 ≤ n := Nat.log2_self_le (by rintro rfl; simp at c)
      have q : 2 ^ 5 ≤ 2 ^ n.log2 := Nat.pow_le_pow_right (by omega) (by omega)
      omega
  · show (numS n).length ≤ 1000000
    omega
theorem fInt_num {n : Nat} (h : n ≤ 30) (k : VH) : fInt [.str (numS n)] k = .ok (.int (n : Nat)) k := by
  have l := num_len h
  simp only [fInt, num_int h]
  exact if_pos (by omega)
def wordsS (l : List Nat) : Str := Txt.join " " (l.map numS)
def linesS (rows : List (List Nat)) : Str := Txt.join ", " (rows.map wordsS)
def boardS (size : Nat) (rows : List (List Nat)) : Str := Txt.join ":" [numS size, if rows = [] then "" else " " ++ linesS rows]
def lineT (l : List Nat) : T := .tup (l.map fun c => .int (c : Nat))
def rowsLT (rows : List (List Nat)) : T := .lst (rows.map lineT)
structure Line (size : Nat) (l : List Nat) : Prop where
  ne : l ≠ []
  asc : l.Pairwise (· < ·)
  lt : ∀ c ∈ l, c < size
structure Rows (size : Nat) (rows : List (List Nat)) : Prop where
  s0 : 0 < size
  s1 : size ≤ 30
  len : rows.length ≤ 30
  line : ∀ l ∈ rows, Line size l
  asc : rows.Pairwise fun a b => W.dataLt (.tuple (a.map fun c => .int (c : Nat))) (.tuple (b.map fun c => .int (c : Nat))) = true
theorem asc_len : ∀ {l : List Nat} {a b : Nat}, l.Pairwise (· < ·) → (∀ c ∈ l, a ≤ c ∧ c < b) → l.length ≤ b - a
  | [], _, _, _, _ => Nat.zero_le _
  | x :: l, a, b, p, h => by
    rw [List.pairwise_cons] at p
    have hx := h x List.mem_cons_self
    have := asc_len (a := x + 1) (b := b) p.2 fun c hc => ⟨p.1 c hc, (h c (List.mem_cons_of_mem _ hc)).2⟩
    simp only [List.length_cons]
    omega
theorem Line.len {size : Nat} {l : List Nat} (L : Line size l) : l.length ≤ size := by
  have := asc_len (a := 0) (b := size) L.asc fun c hc => ⟨Nat.zero_le _, L.lt c hc⟩
  omega
theorem mem_join {c : Nat} (y : Str) : ∀ {ps : List Str}, c ∈ tl (Txt.join y ps) → c ∈ tl y ∨ ∃ p ∈ ps, c ∈ tl p := by
  intro ps h
  rw [join_eq] at h
  induction ps with
  | nil => cases h
  | cons x ps ih =>
    cases ps with
    | nil => exact .inr ⟨x, List.mem_cons_self, h⟩
    | cons z ps =>
      have e : Str.join y (x :: z :: ps) = x ++ y ++ Str.join y (z :: ps) := rfl
      rw [e, tl_append, tl_append, List.mem_append, List.mem_append] at h
      rcases h with (h | h) | h
      · exact .inr ⟨x, List.mem_cons_self, h⟩
      · exact .inl h
      · rcases ih h with q | ⟨p, hp, q⟩
        · exact .inl q
        · exact .inr ⟨p, List.mem_cons_of_mem _ hp, q⟩
theorem join_len (y : Str) : ∀ (ps : List Str), (Txt.join y ps).length ≤ (ps.map (·.length)).sum + ps.length * y.length := by
  intro ps
  rw [join_eq]
  induction ps with
  | nil => exact Nat.zero_le _
  | cons x ps ih =>
    cases ps with
    | nil => simp [Str.join]
    | cons z ps =>
      have e : Str.join y (x :: z :: ps) = x ++ y ++ Str.join y (z :: ps) := rfl
      rw [e, TL.len_app, TL.len_app]
      simp only [List.map_cons, List.sum_cons, List.length_cons] at ih ⊢
      rw [Nat.add_mul (ps.length + 1)]
      omega
theorem sum_le {α : Type} {f : α → Nat} {b : Nat} : ∀ {l : List α}, (∀ x ∈ l, f x ≤ b) → (l.map f).sum ≤ l.length * b
  | [], _ => Nat.zero_le _
  | x :: l, h => by
    have h1 := h x List.mem_cons_self
    have h2 := sum_le fun y hy => h y (List.mem_cons_of_mem _ hy)
    simp only [List.map_cons, List.sum_cons, List.length_cons, Nat.add_mul]
    omega
theorem words_sum {size : Nat} {l : List Nat} (s1 : size ≤ 30) (L : Line size l) : ((l.map numS).map (·.length)).sum ≤ 60 := by
  have := sum_le (f := fun x : Str => x.length) (b := 2) (l := l.map numS) fun x hx => by
    obtain ⟨n, hn, rfl⟩ := List.mem_map.mp hx
    have := L.lt n hn
    exact (num_len (by omega)).1
  rw [List.length_map] at this
  have := L.len
  omega
theorem words_len {size : Nat} {l : List Nat} (s1 : size ≤ 30) (L : Line size l) : (wordsS l).length ≤ 90 := by
  have h1 := join_len " " (l.map numS)
  have h2 := words_sum s1 L
  have h3 := L.len
  have e : ((" " : String) : Str).length = 1 := by decide
  rw [List.length_map, e] at h1
  unfold wordsS
  omega
theorem words_mem {size : Nat} {l : List Nat} (s1 : size ≤ 30) (L : Line size l) {c : Nat} (h : c ∈ tl (wordsS l)) : c = 32 ∨ (48 ≤ c ∧ c ≤ 57) := by
  rcases mem_join " " h with q | ⟨p, hp, q⟩
  · have e : tl (" " : String) = [32] := by decide +kernel
    rw [e] at q
    exact .inl (List.mem_singleton.mp q)
  · obtain ⟨n, hn, rfl⟩ := List.mem_map.mp hp
    have := L.lt n hn
    exact .inr (num_dig (by omega) q)
theorem lines_sum {size : Nat} {rows : List (List Nat)} (R : Rows size rows) : ((rows.map wordsS).map (·.length)).sum ≤ 2700 := by
  have := sum_le (f := fun x : Str => x.length) (b := 90) (l := rows.map wordsS) fun x hx => by
    obtain ⟨l, hl, rfl⟩ := List.mem_map.mp hx
    exact words_len R.s1 (R.line l hl)
  rw [List.length_map] at this
  have := R.len
  omega
theorem lines_mem {size : Nat} {rows : List (List Nat)} (R : Rows size rows) {c : Nat} (h : c ∈ tl (linesS rows)) : c = 44 ∨ c = 32 ∨ (48 ≤ c ∧ c ≤ 57) := by
  rcases mem_join ", " h with q | ⟨p, hp, q⟩
  · have e : tl (", " : String) = [44, 32] := by decide +kernel
    rw [e] at q
    simp only [List.mem_cons, List.not_mem_nil, or_false] at q
    omega
  · obtain ⟨l, hl, rfl⟩ := List.mem_map.mp hp
    exact .inr (words_mem R.s1 (R.line l hl) q)
theorem lines_len {size : Nat} {rows : List (List Nat)} (R : Rows size rows) : (linesS rows).length ≤ 2800 := by
  have h1 := join_len ", " (rows.map wordsS)
  have h2 := lines_sum R
  have h3 := R.len
  have e : ((", " : String) : Str).length = 2 := by decide
  rw [List.length_map, e] at h1
  unfold linesS
  omega
theorem split_words {size : Nat} {l : List Nat} (s1 : size ≤ 30) (L : Line size l) : Txt.split (wordsS l) " " = l.map numS := by
  refine split_join (y := (" " : String)) (s := 32) (S := []) (by decide +kernel) (by decide +kernel) (fun z => L.ne (List.map_eq_nil_iff.mp z)) fun p hp => ?_
  obtain ⟨n, hn, rfl⟩ := List.mem_map.mp hp
  have := L.lt n hn
  intro z
  have := num_dig (by omega) z
  omega
theorem split_lines {size : Nat} {rows : List (List Nat)} (R : Rows size rows) (ne : rows ≠ []) : Txt.split (linesS rows) ", " = rows.map wordsS := by
  refine split_join (y := (", " : String)) (s := 44) (S := [32]) (by decide +kernel) (by decide +kernel) (fun z => ne (List.map_eq_nil_iff.mp z)) fun p hp => ?_
  obtain ⟨l, hl, rfl⟩ := List.mem_map.mp hp
  intro z
  have := words_mem R.s1 (R.line l hl) z
  omega
def tailS (rows : List (List Nat)) : Str := if rows = [] then "" else " " ++ linesS rows
theorem tail_mem {size : Nat} {rows : List (List Nat)} (R : Rows size rows) {c : Nat} (h : c ∈ tl (tailS rows)) : c ≠ 58 := by
  unfold tailS at h
  split at h
  · have e : tl ("" : String) = [] := by decide +kernel
    rw [e] at h
    cases h
  · rw [tl_append, List.mem_append] at h
    have e : tl (" " : String) = [32] := by decide +kernel
    rw [e] at h
    rcases h with h | h
    · have := List.mem_singleton.mp h; omega
    · have := lines_mem R h; omega
theorem split_board {size : Nat} {rows : List (List Nat)} (R : Rows size rows) : Txt.split (boardS size rows) ":" = [numS size, tailS rows] := by
  refine split_join (y := (":" : String)) (s := 58) (S := []) (by decide +kernel) (by decide +kernel) (fun z => by cases z) fun p hp => ?_
  intro z
  simp only [List.mem_cons, List.not_mem_nil, or_false] at hp
  rcases hp with rfl | rfl
  · have := num_dig R.s1 z
    omega
  · exact tail_mem R z rfl
theorem count_board {size : Nat} {rows : List (List Nat)} (R : Rows size rows) : Txt.count (boardS size rows) ":" = 1 := by
  have e : (":" : String) = (⟨#[58]⟩ : Str) := by decide +kernel
  have h := split_board R
  rw [e] at h ⊢
  have z := PyProof.Rows.split_len (boardS size rows) 58
  rw [h] at z
  rw [PyProof.Rows.count_cnt]
  simp only [List.length_cons, List.length_nil] at z
  omega
end BD
namespace BD
open PySem L2 TL K13
def nE : ME := eCall fAll (aCons (eL (mLc (iSeqC (eVar 0)) [2] (mgName 2) bYes (eOp TL.bIn (eVar 2) (eK (.str "0123456789"))))) aNil)
def nT : MB := (TL.bOr (bTest (eOp TL.bEq (eVar 0) (eK (.str "")))) (TL.bOr (TL.bNot (bTest nE)) (TL.bAnd (bTest (eOp TL.bGt (eCall fLen (aCons (eVar 0) aNil)) (eK (.int 1)))) (bTest (eOp TL.bEq (eOp TL.bIx (eVar 0) (eK (.int 0))) (eK (.str "0")))))))
def nR : MS := (sRet (eIf (TL.bAnd (bTest (eOp TL.bLt (eCall fLen (aCons (eVar 0) aNil)) (eK (.int 9)))) (bTest (eOp TL.bLe (eCall fInt (aCons (eVar 0) aNil)) (eVar 1)))) (eCall fInt (aCons (eVar 0) aNil)) (eK .non)))
theorem n_eq : s_number_in = sSeq (sIf nT (sRet (eK .non)) sNil) nR := rfl
theorem number_ok {n : Nat} {m : Int} (hn : n ≤ 30) (hm : (n : Int) ≤ m) (h : VH) : m_number_in [.str (numS n), .int m] h = .ok (.int (n : Nat)) h := by
  obtain ⟨l2, l0⟩ := num_len hn
  obtain ⟨τ, hτ⟩ : ∃ τ, τ = startT 3 [T.str (numS n), .int m] := ⟨_, rfl⟩
  have v0 : eVar 0 τ h = .ok (.str (numS n)) h := by rw [hτ]; rfl
  have v1 : eVar 1 τ h = .ok (.int m) h := by rw [hτ]; rfl
  have nil : aNil τ h = .ok [] h := rfl
  have ka : ∀ t, eK t τ h = .ok t h := fun _ => rfl
  have A := test_ok ((op_ok (b := TL.bEq) v0 (ka (.str ""))).trans (TL.eq_strs _ _ h))
  have ea : (numS n == ("" : String)) = false := by
    rw [W.beq_decide]
    refine decide_eq_false fun e => ?_
    have := congrArg Str.length e
    have z : (("" : String) : Str).length = 0 := by decide
    omega
  rw [ea] at A
  have B : nE τ h = .ok (.bl true) h := by
    have z := mLc_map (mi := iSeqC (eVar 0)) (ws := [2]) (g := mgName 2) (e := eOp TL.bIn (eVar 2) (eK (.str "0123456789"))) (τ := τ) (h := h) (rd := fun h => seqS h (.str (numS n))) (ts := (numS n).cps.toList.map fun c => .str ⟨#[c]⟩)
      (by rw [hτ]; simp [iSeqC, eVar, walkable, seqS, startT]) (by simp [seqS, signsT]) (by rw [List.length_map, Array.length_toList]; unfold Str.length at l2; omega) (fun _ => .bl true) (fun t ht => by
        obtain ⟨c, hc, rfl⟩ := List.mem_map.mp ht
        refine ⟨[some (.str (numS n)), some (.int m), some (.str ⟨#[c]⟩)], by rw [hτ]; rfl, ?_⟩
        have e : TL.bIn (.str ⟨#[c]⟩) (.str "0123456789") h = .ok (.bl (bInS false ⟨#[c]⟩ "0123456789")) h := rfl
        rw [hInS] at e
        have d := num_dig hn (c := c) hc
        have e2 : (("0123456789" : String) : Str).cps.toList = [48, 49, 50, 51, 52, 53, 54, 55, 56, 57] := by decide +kernel
        have e3 : decide (c ∈ (("0123456789" : String) : Str).cps.toList) = true := by
          rw [e2]
          refine decide_eq_true ?_
          simp only [List.mem_cons, List.not_mem_nil, or_false]
          omega
        rw [e3] at e
        exact (op_ok (b := TL.bIn) (rfl : eVar 2 _ h = .ok (.str ⟨#[c]⟩) h) rfl).trans e)
    have a := (call_ok (b := fAll) (cons_ok (eL_ok z) nil)).trans (hAll ((numS n).cps.toList.map fun c => T.str ⟨#[c]⟩) (fun _ => true) h)
    rw [show (((numS n).cps.toList.map fun c => T.str ⟨#[c]⟩).all fun _ => true) = true from List.all_eq_true.mpr fun _ _ => rfl] at a
    exact a
  have C := test_ok ((op_ok (b := TL.bGt) (hLenS v0) (ka (.int 1))).trans (hGt _ _ h))
  have D : TL.bAnd (bTest (eOp TL.bGt (eCall fLen (aCons (eVar 0) aNil)) (eK (.int 1)))) (bTest (eOp TL.bEq (eOp TL.bIx (eVar 0) (eK (.int 0))) (eK (.str "0")))) τ h = .ok false h := by
    have D := hAnd (d := (bTest (eOp TL.bEq (eOp TL.bIx (eVar 0) (eK (.int 0))) (eK (.str "0"))))) (q := false) C fun g1 => by
      have g1 := of_decide_eq_true g1
      have hd := num_zero hn (by omega)
      obtain ⟨c, r, ec⟩ : ∃ c r, (numS n).cps.toList = c :: r := by
        cases e : (numS n).cps.toList with
        | nil =>
          have : (numS n).length = 0 := by unfold Str.length; rw [← Array.length_toList, e]; rfl
          omega
        | cons c r => exact ⟨c, r, rfl⟩
      rw [ec] at hd
      have ix : TL.bIx (.str (numS n)) (.int 0) h = .ok (.str ⟨#[c]⟩) h := by
        have : atI (numS n).cps.toList 0 = some c := by rw [ec, ix_nn (Int.le_refl _) (by simp)]; rfl
        simp only [TL.bIx, this]
      have q := test_ok ((op_ok (b := TL.bEq) ((op_ok (b := TL.bIx) v0 (ka (.int 0))).trans ix) (ka (.str "0"))).trans (TL.eq_strs _ _ h))
      have e0 : ((⟨#[c]⟩ : Str) == ("0" : String)) = false := by
        rw [W.beq_decide]
        refine decide_eq_false fun e => hd ?_
        have z : (("0" : String) : Str) = ⟨#[48]⟩ := by decide +kernel
        rw [z] at e
        injection e with e
        injection e with e
        injection e with e
        rw [e]
        rfl
      rw [e0] at q
      exact q
    simpa using D
  have T1 : nT τ h = .ok false h := hOr A fun _ => hOr (hNot (test_ok B)) fun _ => D
  have I := (call_ok (b := fInt) (cons_ok v0 nil)).trans (fInt_num hn h)
  have E := test_ok ((op_ok (b := TL.bLt) (hLenS v0) (ka (.int 9))).trans (hLt _ _ h))
  have F := test_ok ((op_ok (b := TL.bLe) I v1).trans (hLe _ _ h))
  rw [decide_eq_true hm] at F
  rw [decide_eq_true (by omega)] at E
  show defM 3 2 s_number_in _ _ = _
  rw [n_eq]
  refine defM_rt rfl ?_
  rw [← hτ]
  exact (seq_nx ((if_f T1).trans rfl)).trans (ret_ok ((hIfT ((hAnd E fun _ => F).trans rfl)).trans I))
def zA : ME := eCall fAny (aCons (eL (mLc (iZipM (aCons (eVar 2) (aCons (eSl (eVar 2) (oSome (eK (.int 1))) oNo) aNil))) [4, 5] (mgTup 2 (mgsCons (mgName 4) (mgsCons (mgName 5) mgsNil))) bYes (eOp TL.bGe (eVar 4) (eVar 5)))) aNil)
theorem zip_mem {ts : List T} {t : T} : t ∈ zipT ts (ts.drop 1) → ∃ (i : Nat) (a b : T), ts[i]? = some a ∧ ts[i + 1]? = some b ∧ t = .tup [a, b] := by
  intro ht
  unfold zipT at ht
  obtain ⟨i, hi, e⟩ := List.getElem_of_mem ht
  simp only [List.length_zipWith, List.length_drop] at hi
  refine ⟨i, ts[i], ts[i + 1], List.getElem?_eq_getElem (by omega), List.getElem?_eq_getElem (by omega), ?_⟩
  rw [← e, List.getElem_zipWith, List.getElem_drop]
  simp only [Nat.add_comm 1 i]
theorem zA_ok {a0 a1 a3 a4 a5 : Option T} {ts : List T} {h : VH} (hl : ts.length ≤ 1000) (hp : ∀ (i : Nat) (a b : T), ts[i]? = some a → ts[i + 1]? = some b → TL.bGe a b h = .ok (.bl false) h) : zA [a0, a1, some (.lst ts), a3, a4, a5] h = .ok (.bl false) h := by
  have nil : aNil [a0, a1, some (.lst ts), a3, a4, a5] h = .ok [] h := rfl
  have mi : iZipM (aCons (eVar 2) (aCons (eSl (eVar 2) (oSome (eK (.int 1))) oNo) aNil)) [a0, a1, some (.lst ts), a3, a4, a5] h = .ok (fun h => match TL.listOf h (.lst ts), TL.listOf h (.lst (ts.drop 1)) with | some ts, some us => some (zipT ts us) | _, _ => none) h := by
    have v2 : eVar 2 [a0, a1, some (.lst ts), a3, a4, a5] h = .ok (.lst ts) h := rfl
    have sl : eSl (eVar 2) (oSome (eK (.int 1))) oNo [a0, a1, some (.lst ts), a3, a4, a5] h = .ok (.lst (ts.drop 1)) h := by
      simp only [eSl, v2, oSome, oNo, eK, TL.bSl, TL.listOf, cut1]
    unfold iZipM
    rw [cons_ok v2 (cons_ok sl nil)]
    rfl
  have lz : (zipT ts (ts.drop 1)).length ≤ 1000 := by
    unfold zipT
    rw [List.length_zipWith]
    omega
  have z := mLc_map (mi := iZipM (aCons (eVar 2) (aCons (eSl (eVar 2) (oSome (eK (.int 1))) oNo) aNil))) (ws := [4, 5]) (g := mgTup 2 (mgsCons (mgName 4) (mgsCons (mgName 5) mgsNil))) (e := eOp TL.bGe (eVar 4) (eVar 5)) (τ := [a0, a1, some (.lst ts), a3, a4, a5]) (h := h) (ts := zipT ts (ts.drop 1)) mi rfl (by omega) (fun _ => .bl false) (fun t ht => by
    obtain ⟨i, a, b, ha, hb, rfl⟩ := zip_mem ht
    refine ⟨[a0, a1, some (.lst ts), a3, some a, some b], rfl, ?_⟩
    exact (op_ok (b := TL.bGe) (rfl : eVar 4 _ h = .ok a h) (rfl : eVar 5 _ h = .ok b h)).trans (hp i a b ha hb))
  have a := (call_ok (b := fAny) (cons_ok (eL_ok z) nil)).trans (hAny (zipT ts (ts.drop 1)) (fun _ => false) h)
  rw [show ((zipT ts (ts.drop 1)).any fun _ => false) = false from List.any_eq_false.mpr fun _ _ => Bool.false_ne_true] at a
  exact a
end BD
namespace BD
open PySem L2 TL K13
theorem none_in {ts : List T} {h : VH} (hd : ∀ t ∈ ts, ∃ d, T.dat h 10 t = some d ∧ PyData.eqv d .none = false) : TL.bIn .non (.lst ts) h = .ok (.bl false) h := by
  have key : ∀ ts : List T, (∀ t ∈ ts, ∃ d, T.dat h 10 t = some d ∧ PyData.eqv d .none = false) → ∃ ds : List PyData, ts.mapM (T.dat h 10) = some ds ∧ (ds.any fun z => PyData.eqv z .none) = false := by
    intro ts
    induction ts with
    | nil => intro _; exact ⟨[], rfl, rfl⟩
    | cons t ts ih =>
      intro hd
      obtain ⟨d, e1, e2⟩ := hd t List.mem_cons_self
      obtain ⟨ds, e3, e4⟩ := ih fun u hu => hd u (List.mem_cons_of_mem _ hu)
      exact ⟨d :: ds, by rw [List.mapM_cons, e1, e3]; rfl, by rw [List.any_cons, e2, e4]; rfl⟩
  obtain ⟨ds, e1, e2⟩ := key ts hd
  have d2 : T.dat h 11 (.lst ts) = some (.list ds) := by
    show (ts.mapM (T.dat h 10)).map PyData.list = _
    rw [e1]
    rfl
  have e3 : TL.bIn .non (.lst ts) h = (match T.dat h 10 .non, T.dat h 11 (.lst ts) with
    | some d, some (.list ds) => Res.ok (.bl (false != ds.any fun z => PyData.eqv z d)) h
    | some d, some (.tuple ds) => .ok (.bl (false != ds.any fun z => PyData.eqv z d)) h
    | _, _ => .bad) := rfl
  rw [e3, d2, dat_non]
  simp only [e2]
  rfl
theorem line_dat (l : List Nat) (h : VH) (k : Nat) : T.dat h (k + 1) (lineT l) = some (.tuple (l.map fun c => .int (c : Nat))) := by
  have : (l.map fun c : Nat => T.int (c : Nat)).mapM (T.dat h k) = some (l.map fun c : Nat => PyData.int (c : Nat)) := by
    rw [List.mapM_map]
    exact mapM_some fun c _ => dat_int
  show ((l.map fun c : Nat => T.int (c : Nat)).mapM (T.dat h k)).map PyData.tuple = _
  rw [this]
  rfl
def lnS : MS := (sSet 2 (eL (mLc (iSeqC (eMt "str" mSplit (eVar 0) (aCons (eK (.str " ")) aNil))) [3] (mgName 3) bYes (eCall m_number_in (aCons (eVar 3) (aCons (eOp TL.bSub (eVar 1) (eK (.int 1))) aNil))))))
theorem ln_eq : s_line_in = sSeq lnS (sSeq (sIf (TL.bOr (bTest (eOp TL.bIn (eK .non) (eVar 2))) (bTest zA)) (sRet (eK .non)) sNil) (sRet (eCall fTuple (aCons (eVar 2) aNil)))) := rfl
theorem line_ok {size : Nat} {l : List Nat} (s1 : size ≤ 30) (L : Line size l) (h : VH) : m_line_in [.str (wordsS l), .int (size : Nat)] h = .ok (lineT l) h := by
  have ll := L.len
  have wl := words_len s1 L
  have S : lnS (startT 6 [T.str (wordsS l), .int (size : Nat)]) h = .nx [some (.str (wordsS l)), some (.int (size : Nat)), some (.lst (l.map fun c => .int (c : Nat))), none, none, none] h := by
    have sp := hSplit (h := h) (τ := startT 6 [T.str (wordsS l), .int (size : Nat)]) (f := eVar 0) (g := eK (.str " ")) (u := wordsS l) (v := " ") (by decide) (by omega) rfl rfl
    rw [split_words s1 L, List.map_map] at sp
    have z := mLc_map (mi := iSeqC (eMt "str" mSplit (eVar 0) (aCons (eK (.str " ")) aNil))) (ws := [3]) (g := mgName 3) (e := eCall m_number_in (aCons (eVar 3) (aCons (eOp TL.bSub (eVar 1) (eK (.int 1))) aNil))) (τ := startT 6 [T.str (wordsS l), .int (size : Nat)]) (h := h) (rd := fun h => seqS h (.lst (l.map (T.str ∘ numS)))) (ts := l.map (T.str ∘ numS))
      (by unfold iSeqC; rw [sp]; rfl) rfl (by rw [List.length_map]; omega) (fun t => match t with | .str z => (match intText? z with | some i => .int i | none => .non) | t => t) (fun t ht => by
        obtain ⟨n, hn, rfl⟩ := List.mem_map.mp ht
        have lt := L.lt n hn
        refine ⟨[some (.str (wordsS l)), some (.int (size : Nat)), none, some (.str (numS n)), none, none], rfl, ?_⟩
        have A := (op_ok (b := TL.bSub) (rfl : eVar 1 [some (.str (wordsS l)), some (.int (size : Nat)), none, some (.str (numS n)), none, none] h = .ok (.int (size : Nat)) h) (rfl : eK (.int 1) [some (.str (wordsS l)), some (.int (size : Nat)), none, some (.str (numS n)), none, none] h = .ok (.int 1) h)).trans (hSub _ _ h)
        have B := (call_ok (b := m_number_in) (cons_ok (rfl : eVar 3 [some (.str (wordsS l)), some (.int (size : Nat)), none, some (.str (numS n)), none, none] h = .ok (.str (numS n)) h) (cons_ok A (rfl : aNil _ h = .ok [] h)))).trans (number_ok (n := n) (m := (size : Int) - 1) (by omega) (by omega) h)
        show _ = Res.ok (match intText? (numS n) with | some i => T.int i | none => .non) h
        rw [num_int (by omega)]
        exact B)
    have e : (l.map (T.str ∘ numS)).map (fun t => match t with | .str z => (match intText? z with | some i => T.int i | none => .non) | t => t) = l.map fun c => .int (c : Nat) := by
      rw [List.map_map]
      refine List.map_congr_left fun n hn => ?_
      have lt := L.lt n hn
      show (match intText? (numS n) with | some i => T.int i | none => .non) = _
      rw [num_int (by omega)]
    rw [e] at z
    exact (set_ok (i := 2) (eL_ok z)).trans rfl
  obtain ⟨τ, hτ⟩ : ∃ τ, τ = [some (T.str (wordsS l)), some (.int (size : Nat)), some (.lst (l.map fun c => T.int (c : Nat))), none, none, none] := ⟨_, rfl⟩
  rw [← hτ] at S
  have v2 : eVar 2 τ h = .ok (.lst (l.map fun c => T.int (c : Nat))) h := by rw [hτ]; rfl
  have A := test_ok ((op_ok (b := TL.bIn) (rfl : eK .non τ h = .ok .non h) v2).trans (none_in fun t ht => by
    obtain ⟨c, _, rfl⟩ := List.mem_map.mp ht
    exact ⟨_, dat_int, rfl⟩))
  have B : zA τ h = .ok (.bl false) h := by
    rw [hτ]
    refine zA_ok (by rw [List.length_map]; omega) fun i a b ha hb => ?_
    rw [List.getElem?_map] at ha hb
    obtain ⟨x, hx, rfl⟩ := Option.map_eq_some_iff.mp ha
    obtain ⟨y, hy, rfl⟩ := Option.map_eq_some_iff.mp hb
    obtain ⟨i1, ex⟩ := List.getElem?_eq_some_iff.mp hx
    obtain ⟨i2, ey⟩ := List.getElem?_eq_some_iff.mp hy
    have lt := List.pairwise_iff_getElem.mp L.asc i (i + 1) i1 i2 (by omega)
    rw [ex, ey] at lt
    rw [hGe, decide_eq_false (by omega)]
  show defM 6 2 s_line_in _ _ = _
  rw [ln_eq]
  refine defM_rt rfl ((seq_nx S).trans ((seq_nx ((if_f (hOr A fun _ => test_ok B)).trans rfl)).trans (ret_ok ?_)))
  exact (call_ok (b := fTuple) (cons_ok v2 (rfl : aNil τ h = .ok [] h))).trans rfl
theorem ge_lines {a b : List Nat} (lt : W.dataLt (.tuple (a.map fun c => .int (c : Nat))) (.tuple (b.map fun c => .int (c : Nat))) = true) (h : VH) : TL.bGe (lineT a) (lineT b) h = .ok (.bl false) h := by
  have d1 := line_dat a h 9
  have d2 := line_dat b h 9
  have al : W.alike (.tuple (a.map fun c => PyData.int (c : Nat))) (.tuple (b.map fun c => PyData.int (c : Nat))) = true := by
    have := W.alike_ints (a.map fun c : Nat => (c : Int)) (b.map fun c : Nat => (c : Int))
    rw [List.map_map, List.map_map] at this
    unfold W.alike
    exact this
  show bOrdD (fun d e => !W.dataLt d e) (lineT a) (lineT b) h = _
  unfold bOrdD
  rw [d1, d2]
  simp only [al, lt]
  rfl
theorem cut_tail (z : Str) : cutS (" " ++ z) (some 1) none = z := by
  have e0 : tl (" " : String) = [32] := by decide +kernel
  have e1 : (((" " : String) : Str) ++ z).cps.toList = 32 :: z.cps.toList := by
    have := tl_append (" " : String) z
    rw [e0] at this
    exact this
  have e2 : (((" " : String) : Str) ++ z).length = z.length + 1 := by
    unfold Str.length
    rw [← Array.length_toList, e1, List.length_cons, Array.length_toList]
  have s1 : HT.sIx (z.length + 1) 0 (some 1) = 1 := by
    unfold HT.sIx
    simp
  have s2 : HT.sIx (z.length + 1) (z.length + 1) none = z.length + 1 := rfl
  unfold cutS
  rw [e1, e2, s1, s2]
  refine Str.ext' ?_
  rw [← Array.toList_inj]
  simp [Str.length]
  exact List.take_of_length_le (by simp)
end BD
namespace BD
open PySem L2 TL K13
def lsS : MS := (sSet 2 (eL (mLc (iSeqC (eMt "str" mSplit (eSl (eVar 0) (oSome (eK (.int 1))) oNo) (aCons (eK (.str ", ")) aNil))) [3] (mgName 3) bYes (eCall m_line_in (aCons (eVar 3) (aCons (eVar 1) aNil))))))
theorem ls_eq : s_lines_in = sSeq (sIf (bTest (eOp TL.bEq (eVar 0) (eK (.str "")))) (sRet (eL (aLim aNil))) sNil) (sSeq (sIf (bTest (eOp TL.bNe (eOp TL.bIx (eVar 0) (eK (.int 0))) (eK (.str " ")))) (sRet (eK .non)) sNil) (sSeq lsS (sSeq (sIf (TL.bOr (bTest (eOp TL.bIn (eK .non) (eVar 2))) (bTest (eOp TL.bGt (eCall fLen (aCons (eVar 2) aNil)) (eK (.int 30))))) (sRet (eK .non)) sNil) (sRet (eIf (bTest zA) (eK .non) (eVar 2)))))) := rfl
theorem lines_ok {size : Nat} {rows : List (List Nat)} (R : Rows size rows) (h : VH) : m_lines_in [.str (tailS rows), .int (size : Nat)] h = .ok (rowsLT rows) h := by
  show defM 6 2 s_lines_in _ _ = _
  rw [ls_eq]
  have kk : ∀ t, eK t (startT 6 [T.str (tailS rows), .int (size : Nat)]) h = .ok t h := fun _ => rfl
  have v0 : eVar 0 (startT 6 [T.str (tailS rows), .int (size : Nat)]) h = .ok (.str (tailS rows)) h := rfl
  have A := test_ok ((op_ok (b := TL.bEq) v0 (kk (.str ""))).trans (TL.eq_strs _ _ h))
  by_cases q : rows = []
  · subst q
    have e : (tailS [] == ("" : String)) = true := by decide +kernel
    rw [e] at A
    exact defM_rt rfl (seq_rt ((if_t A).trans rfl))
  · have et : tailS rows = ((" " : String) : Str) ++ linesS rows := by unfold tailS; rw [if_neg q]
    have e0 : tl (" " : String) = [32] := by decide +kernel
    have ec : (tailS rows).cps.toList = 32 :: (linesS rows).cps.toList := by
      rw [et]
      have := tl_append (" " : String) (linesS rows)
      rw [e0] at this
      exact this
    have e : (tailS rows == ("" : String)) = false := by
      rw [W.beq_decide]
      refine decide_eq_false fun z => ?_
      have z2 := congrArg (fun s : Str => s.cps.toList) z
      have z3 : (("" : String) : Str).cps.toList = [] := by decide +kernel
      simp only [ec, z3] at z2
      cases z2
    rw [e] at A
    have ix : TL.bIx (.str (tailS rows)) (.int 0) h = .ok (.str " ") h := by
      have a : atI (tailS rows).cps.toList 0 = some 32 := by rw [ec, ix_nn (Int.le_refl _) (by simp)]; rfl
      have b : ((" " : String) : Str) = ⟨#[32]⟩ := by decide +kernel
      simp only [TL.bIx, a, b]
    have B := test_ok ((op_ok (b := TL.bNe) ((op_ok (b := TL.bIx) v0 (kk (.int 0))).trans ix) (kk (.str " "))).trans (TL.ne_strs _ _ h))
    rw [beq_self_eq_true] at B
    have ll := lines_len R
    have S : lsS (startT 6 [T.str (tailS rows), .int (size : Nat)]) h = .nx [some (.str (tailS rows)), some (.int (size : Nat)), some (rowsLT rows), none, none, none] h := by
      have sl : eSl (eVar 0) (oSome (eK (.int 1))) oNo (startT 6 [T.str (tailS rows), .int (size : Nat)]) h = .ok (.str (linesS rows)) h := by
        have := cut_tail (linesS rows)
        rw [← et] at this
        simp only [eSl, v0, oSome, oNo, eK, TL.bSl, this]
      have sp := hSplit (h := h) (g := eK (.str ", ")) (v := ", ") (by decide) (by omega) sl rfl
      rw [split_lines R q, List.map_map] at sp
      have z := mLc_map (mi := iSeqC (eMt "str" mSplit (eSl (eVar 0) (oSome (eK (.int 1))) oNo) (aCons (eK (.str ", ")) aNil))) (ws := [3]) (g := mgName 3) (e := eCall m_line_in (aCons (eVar 3) (aCons (eVar 1) aNil))) (τ := startT 6 [T.str (tailS rows), .int (size : Nat)]) (h := h) (rd := fun h => seqS h (.lst (rows.map (T.str ∘ wordsS)))) (ts := rows.map (T.str ∘ wordsS))
        (by unfold iSeqC; rw [sp]; rfl) rfl (by rw [List.length_map]; have := R.len; omega) (fun t => match m_line_in [t, .int (size : Nat)] h with | .ok u _ => u | _ => .non) (fun t ht => by
          obtain ⟨l, hl, rfl⟩ := List.mem_map.mp ht
          refine ⟨[some (.str (tailS rows)), some (.int (size : Nat)), none, some (.str (wordsS l)), none, none], rfl, ?_⟩
          have e := line_ok R.s1 (R.line l hl) h
          show _ = Res.ok (match m_line_in [.str (wordsS l), .int (size : Nat)] h with | .ok u _ => u | _ => .non) h
          rw [e]
          exact (call_ok (ts := [.str (wordsS l), .int (size : Nat)]) rfl).trans e)
      have e : (rows.map (T.str ∘ wordsS)).map (fun t => match m_line_in [t, .int (size : Nat)] h with | .ok u _ => u | _ => .non) = rows.map lineT := by
        rw [List.map_map]
        refine List.map_congr_left fun l hl => ?_
        have e := line_ok R.s1 (R.line l hl) h
        show (match m_line_in [.str (wordsS l), .int (size : Nat)] h with | .ok u _ => u | _ => T.non) = _
        rw [e]
      rw [e] at z
      exact (set_ok (i := 2) (eL_ok z)).trans rfl
    obtain ⟨τ, hτ⟩ : ∃ τ, τ = [some (T.str (tailS rows)), some (.int (size : Nat)), some (rowsLT rows), none, none, none] := ⟨_, rfl⟩
    rw [← hτ] at S
    have v2 : eVar 2 τ h = .ok (rowsLT rows) h := by rw [hτ]; rfl
    have C := test_ok ((op_ok (b := TL.bIn) (rfl : eK .non τ h = .ok .non h) v2).trans (none_in fun t ht => by
      obtain ⟨l, _, rfl⟩ := List.mem_map.mp ht
      exact ⟨_, line_dat l h 9, rfl⟩))
    have D := test_ok ((op_ok (b := TL.bGt) (hLenL v2) (rfl : eK (.int 30) τ h = .ok (.int 30) h)).trans (hGt _ _ h))
    rw [List.length_map, decide_eq_false (by have := R.len; omega)] at D
    have E : zA τ h = .ok (.bl false) h := by
      rw [hτ]
      refine zA_ok (by rw [List.length_map]; have := R.len; omega) fun i a b ha hb => ?_
      rw [List.getElem?_map] at ha hb
      obtain ⟨x, hx, rfl⟩ := Option.map_eq_some_iff.mp ha
      obtain ⟨y, hy, rfl⟩ := Option.map_eq_some_iff.mp hb
      obtain ⟨i1, ex⟩ := List.getElem?_eq_some_iff.mp hx
      obtain ⟨i2, ey⟩ := List.getElem?_eq_some_iff.mp hy
      have lt := List.pairwise_iff_getElem.mp R.asc i (i + 1) i1 i2 (by omega)
      rw [ex, ey] at lt
      exact ge_lines lt h
    exact defM_rt rfl ((seq_nx ((if_f A).trans rfl)).trans ((seq_nx ((if_f B).trans rfl)).trans ((seq_nx S).trans ((seq_nx ((if_f (hOr C fun _ => D)).trans rfl)).trans (ret_ok ((hIfF (test_ok E)).trans v2))))))
theorem bi_eq : s_board_in = sSeq (sIf (TL.bOr (TL.bNot (bTest (eIsi (.b "str") (eVar 0)))) (bTest (eOp TL.bNe (eMt "str" mCount (eVar 0) (aCons (eK (.str ":")) aNil)) (eK (.int 1))))) (sRet (eK .non)) sNil)
  (sSeq (sAsg (eMt "str" mSplit (eVar 0) (aCons (eK (.str ":")) aNil)) (mgLst 2 (mgsCons (mgName 1) (mgsCons (mgName 2) mgsNil))))
  (sSeq (sSet 3 (eCall m_number_in (aCons (eVar 1) (aCons (eK (.int 30)) aNil))))
  (sSeq (sSet 4 (eIf (TL.bAnd (bTest (eOp bIsn (eVar 3) (eK .non))) (bTest (eOp TL.bGt (eVar 3) (eK (.int 0))))) (eCall m_lines_in (aCons (eVar 2) (aCons (eVar 3) aNil))) (eK .non)))
  (sRet (eIf (bTest (eOp bIs (eVar 4) (eK .non))) (eK .non) (eTup (aCons (eVar 3) (aCons (eVar 4) aNil)))))))) := rfl
theorem board_len {size : Nat} {rows : List (List Nat)} (R : Rows size rows) : (boardS size rows).length ≤ 3000 := by
  have h1 := join_len ":" [numS size, tailS rows]
  have e : ((":" : String) : Str).length = 1 := by decide
  have h2 := num_len R.s1
  have h3 := lines_len R
  have h4 : (tailS rows).length ≤ 2801 := by
    unfold tailS
    split
    · decide +kernel
    · rw [TL.len_app]
      have : ((" " : String) : Str).length = 1 := by decide
      omega
  simp only [List.map_cons, List.map_nil, List.sum_cons, List.sum_nil, List.length_cons, List.length_nil, e] at h1
  have : (boardS size rows).length = (Txt.join ":" [numS size, tailS rows]).length := rfl
  omega
theorem board_in_ok {size : Nat} {rows : List (List Nat)} (R : Rows size rows) (h : VH) : m_board_in [.str (boardS size rows)] h = .ok (.tup [.int (size : Nat), rowsLT rows]) h := by
  have bl := board_len R
  obtain ⟨τ, hτ⟩ : ∃ τ, τ = startT 5 [T.str (boardS size rows)] := ⟨_, rfl⟩
  have v0 : eVar 0 τ h = .ok (.str (boardS size rows)) h := by rw [hτ]; rfl
  have A : eIsi (.b "str") (eVar 0) τ h = .ok (.bl true) h := by simp only [eIsi, v0, tyOf, isiB, beq_self_eq_true, Bool.true_or]
  have B : eMt "str" mCount (eVar 0) (aCons (eK (.str ":")) aNil) τ h = .ok (.int 1) h := by
    have tt : tyT h "str" (.str (boardS size rows)) = true := by unfold tyT; rfl
    have a : aCons (eK (.str ":")) aNil τ h = .ok [.str ":"] h := rfl
    unfold eMt
    simp only [v0, tt, if_true, a, mCount, count_board R]
  have C := test_ok ((op_ok (b := TL.bNe) B (rfl : eK (.int 1) τ h = .ok (.int 1) h)).trans (hNe _ _ h))
  have T1 := hOr (hNot (test_ok A)) fun _ => C
  have sp := hSplit (h := h) (g := eK (.str ":")) (v := ":") (by decide) (by omega) v0 rfl
  rw [split_board R] at sp
  have s2 : sAsg (eMt "str" mSplit (eVar 0) (aCons (eK (.str ":")) aNil)) (mgLst 2 (mgsCons (mgName 1) (mgsCons (mgName 2) mgsNil))) τ h = .nx [some (.str (boardS size rows)), some (.str (numS size)), some (.str (tailS rows)), none, none] h := by
    unfold sAsg
    rw [sp, hτ]
    rfl
  have n1 := number_ok (n := size) (m := 30) R.s1 (by have := R.s1; omega) h
  have s3 : sSet 3 (eCall m_number_in (aCons (eVar 1) (aCons (eK (.int 30)) aNil))) [some (.str (boardS size rows)), some (.str (numS size)), some (.str (tailS rows)), none, none] h = .nx [some (.str (boardS size rows)), some (.str (numS size)), some (.str (tailS rows)), some (.int (size : Nat)), none] h :=
    set_ok (i := 3) ((call_ok (ts := [.str (numS size), .int 30]) rfl).trans n1)
  obtain ⟨τ3, hτ3⟩ : ∃ τ3, τ3 = [some (T.str (boardS size rows)), some (.str (numS size)), some (.str (tailS rows)), some (.int (size : Nat)), none] := ⟨_, rfl⟩
  have w3 : eVar 3 τ3 h = .ok (.int (size : Nat)) h := by rw [hτ3]; rfl
  have w2 : eVar 2 τ3 h = .ok (.str (tailS rows)) h := by rw [hτ3]; rfl
  have D1 : bTest (eOp bIsn (eVar 3) (eK .non)) τ3 h = .ok true h := test_ok ((op_ok (b := bIsn) w3 (rfl : eK .non τ3 h = .ok .non h)).trans rfl)
  have D2 := test_ok ((op_ok (b := TL.bGt) w3 (rfl : eK (.int 0) τ3 h = .ok (.int 0) h)).trans (hGt _ _ h))
  rw [decide_eq_true (by have := R.s0; omega)] at D2
  have E := (call_ok (b := m_lines_in) (cons_ok w2 (cons_ok w3 (rfl : aNil τ3 h = .ok [] h)))).trans (lines_ok R h)
  have s4 : sSet 4 (eIf (TL.bAnd (bTest (eOp bIsn (eVar 3) (eK .non))) (bTest (eOp TL.bGt (eVar 3) (eK (.int 0))))) (eCall m_lines_in (aCons (eVar 2) (aCons (eVar 3) aNil))) (eK .non)) τ3 h = .nx (τ3.set 4 (some (rowsLT rows))) h := set_ok (i := 4) ((hIfT (hAnd D1 fun _ => D2)).trans E)
  rw [hτ3] at s4
  show defM 5 1 s_board_in _ _ = _
  rw [bi_eq]
  refine defM_rt rfl ?_
  rw [← hτ]
  exact (seq_nx ((if_f T1).trans rfl)).trans ((seq_nx s2).trans ((seq_nx s3).trans ((seq_nx s4).trans (ret_ok ((hIfF (h1 := h) rfl).trans rfl)))))
def boardT (size : Nat) (rows : List (List Nat)) : T := .obj 0 [.str (boardS size rows), .int (size : Nat), rowsLT rows]
theorem ints_low (l : List Nat) (n : Nat) : lowRs n (l.map fun c => T.int (c : Nat)) = true := by
  induction l with
  | nil => rfl
  | cons c l ih => simp [lowRs, T.lowR, ih]
theorem line_low (l : List Nat) (n : Nat) : (lineT l).lowR n = true := by unfold lineT; simp only [T.lowR]; exact ints_low l n
theorem rows_low (rows : List (List Nat)) (n : Nat) : (rowsLT rows).lowR n = true := by
  unfold rowsLT
  simp only [T.lowR]
  induction rows with
  | nil => rfl
  | cons r rows ih =>
    show (lowRs n (lineT r :: rows.map lineT)) = true
    simp only [lowRs, line_low, ih, Bool.and_self]
theorem make_ok {size : Nat} {rows : List (List Nat)} (R : Rows size rows) {h : VH} (hl : h.all (VO.lowR h.length) = true) : cutM (makeM 0 m_Board___init__) [.str (boardS size rows)] h = .ok (boardT size rows) h := by
  have r1 := board_in_ok R (h ++ [.ins 0 []])
  have g0 : (h ++ [VO.ins 0 []])[h.length]? = some (.ins 0 []) := by simp
  have s1 : (h ++ [VO.ins 0 []]).set h.length (.ins 0 [.str (boardS size rows)]) = h ++ [.ins 0 [.str (boardS size rows)]] := by simp
  have g1 : (h ++ [VO.ins 0 [.str (boardS size rows)]])[h.length]? = some (.ins 0 [.str (boardS size rows)]) := by simp
  have s2 : (h ++ [VO.ins 0 [.str (boardS size rows)]]).set h.length (.ins 0 [.str (boardS size rows), .int (size : Nat)]) = h ++ [.ins 0 [.str (boardS size rows), .int (size : Nat)]] := by simp
  have g2 : (h ++ [VO.ins 0 [.str (boardS size rows), .int (size : Nat)]])[h.length]? = some (.ins 0 [.str (boardS size rows), .int (size : Nat)]) := by simp
  have s3 : (h ++ [VO.ins 0 [.str (boardS size rows), .int (size : Nat)]]).set h.length (.ins 0 [.str (boardS size rows), .int (size : Nat), rowsLT rows]) = h ++ [.ins 0 [.str (boardS size rows), .int (size : Nat), rowsLT rows]] := by simp
  have hm : m_Board___init__ [.ref h.length, .str (boardS size rows)] (h ++ [.ins 0 []]) = .ok .non (h ++ [.ins 0 [.str (boardS size rows), .int (size : Nat), rowsLT rows]]) := by
    have ei : bIs (.tup [.int (size : Nat), rowsLT rows]) .non (h ++ [.ins 0 []]) = .ok (.bl false) (h ++ [.ins 0 []]) := rfl
    simp [m_Board___init__, s_Board___init__, defM, startT, sSeq, sSet, sIf, sNil, sBad, bTest, eOp, eK, eVar, eCall, aCons, aNil, r1, ei, sAsg, eTup, mgTup, mgsCons, mgFld, mgsNil, g0, s1, g1, s2, g2, s3]
  have ht : (h ++ [VO.ins 0 [.str (boardS size rows), .int (size : Nat), rowsLT rows]]).take h.length = h := by simp
  have fz : frz h.length (h ++ [.ins 0 [.str (boardS size rows), .int (size : Nat), rowsLT rows]]) 4 (.ref h.length) = some (boardT size rows) := by
    have l1 : T.lowR h.length (.ref h.length) = false := by simp [T.lowR]
    have g3 : (h ++ [VO.ins 0 [.str (boardS size rows), .int (size : Nat), rowsLT rows]])[h.length]? = some (.ins 0 [.str (boardS size rows), .int (size : Nat), rowsLT rows]) := by simp
    have k1 : frz h.length (h ++ [.ins 0 [.str (boardS size rows), .int (size : Nat), rowsLT rows]]) 3 (.str (boardS size rows)) = some (.str (boardS size rows)) := by unfold frz; rw [if_pos (by rfl)]
    have k2 : frz h.length (h ++ [.ins 0 [.str (boardS size rows), .int (size : Nat), rowsLT rows]]) 3 (.int (size : Nat)) = some (.int (size : Nat)) := by unfold frz; rw [if_pos (by rfl)]
    have k3 : frz h.length (h ++ [.ins 0 [.str (boardS size rows), .int (size : Nat), rowsLT rows]]) 3 (rowsLT rows) = some (rowsLT rows) := by unfold frz; rw [if_pos (rows_low rows _)]
    unfold frz
    rw [l1]
    simp only [Bool.false_eq_true, if_false, g3]
    simp [k1, k2, k3, boardT]
  unfold cutM makeM
  rw [hm]
  simp only [ht, hl, fz, if_true]
end BD
namespace BD
open PySem L2 TL K13
theorem any_ints (c : Nat) (l : List Nat) : ((l.map fun c : Nat => PyData.int (c : Nat)).any fun z => PyData.eqv z (.int (c : Nat))) = decide (c ∈ l) := by
  induction l with
  | nil => simp
  | cons d l ih =>
    rw [List.map_cons, List.any_cons, ih]
    simp only [PyData.eqv]
    by_cases q : d = c
    · simp [q]
    · have : c ≠ d := fun z => q z.symm
      have n : ((d : Nat) : Int) ≠ (c : Nat) := by omega
      simp [this, n]
theorem inG_line (neg : Bool) (c : Nat) (l : List Nat) (h : VH) : bInG neg (.int (c : Nat)) (lineT l) h = .ok (.bl (neg != decide (c ∈ l))) h := by
  have d1 := line_dat l h 10
  have e3 : bInG neg (.int (c : Nat)) (lineT l) h = (match T.dat h 10 (.int (c : Nat)), T.dat h 11 (lineT l) with
    | some d, some (.list ds) => Res.ok (.bl (neg != ds.any fun z => PyData.eqv z d)) h
    | some d, some (.tuple ds) => .ok (.bl (neg != ds.any fun z => PyData.eqv z d)) h
    | _, _ => .bad) := rfl
  rw [e3, d1, dat_int]
  simp only [any_ints]
theorem in_line (c : Nat) (l : List Nat) (h : VH) : TL.bIn (.int (c : Nat)) (lineT l) h = .ok (.bl (decide (c ∈ l))) h := by
  have := inG_line false c l h
  rw [Bool.false_bne] at this
  exact this
theorem nin_line (c : Nat) (l : List Nat) (h : VH) : TL.bNin (.int (c : Nat)) (lineT l) h = .ok (.bl (!decide (c ∈ l))) h := by
  have := inG_line true c l h
  rw [Bool.true_bne] at this
  exact this
theorem between_ok (i a b : Int) (h : VH) : m_is_between [.int i, .int a, .int b] h = .ok (.bl (decide (a ≤ i) && decide (i ≤ b))) h := by
  have i0 : m_is_integer [.int i] h = .ok (.bl true) h := rfl
  refine defM_rt rfl (ret_ok ?_)
  have A : eCall m_is_integer (aCons (eVar 0) aNil) (startT 3 [.int i, .int a, .int b]) h = .ok (.bl true) h := (call_ok (ts := [.int i]) rfl).trans i0
  have B := hChain (τ := startT 3 [.int i, .int a, .int b]) (h := h) (f := eVar 1) (g := eVar 0) (k := eVar 2) (x := .int a) (y := .int i) (z := .int b) rfl rfl (hLe _ _ h) rfl (hLe _ _ h)
  exact (hEand A fun _ => B).trans (by rw [Bool.true_and])
structure Hand (size : Nat) (l others : List Nat) : Prop where
  asc : l.Pairwise (· < ·)
  lt : ∀ c ∈ l, c < size
  out : ∀ c ∈ l, c ∉ others
theorem Hand.len {size : Nat} {l o : List Nat} (L : Hand size l o) : l.length ≤ size := by
  have := asc_len (a := 0) (b := size) L.asc fun c hc => ⟨Nat.zero_le _, L.lt c hc⟩
  omega
def ccB : MS := (sIf (TL.bOr (TL.bNot (bTest (eCall m_is_between (aCons (eVar 4) (aCons (eK (.int 0)) (aCons (eOp TL.bSub (eVar 1) (eK (.int 1))) aNil)))))) (TL.bOr (TL.bAnd (bTest (eOp TL.bGt (eVar 3) (eK (.int 0)))) (bTest (eOp TL.bLe (eVar 4) (eOp TL.bIx (eVar 0) (eOp TL.bSub (eVar 3) (eK (.int 1))))))) (bTest (eOp TL.bIn (eVar 4) (eVar 2))))) sBad sNil)
theorem cc_eq : s_check_cells = sSeq (sIf (TL.bNot (bTest (eIsi (.b "tuple") (eVar 0)))) sBad sNil) (sFor (iEnumTM (aCons (eVar 0) aNil)) (mgTup 2 (mgsCons (mgName 3) (mgsCons (mgName 4) mgsNil))) ccB) := rfl
theorem cells_ok {size : Nat} {l others : List Nat} (L : Hand size l others) (h : VH) : m_check_cells [lineT l, .int (size : Nat), lineT others] h = .ok .non h := by
  have A : bTest (eIsi (.b "tuple") (eVar 0)) (startT 5 [lineT l, .int (size : Nat), lineT others]) h = .ok true h := by
    refine test_ok ?_
    have v0 : eVar 0 (startT 5 [lineT l, .int (size : Nat), lineT others]) h = .ok (lineT l) h := rfl
    simp only [eIsi, v0]
    rfl
  obtain ⟨τ', h', z, ⟨a, b, rfl⟩, rfl⟩ := sFor_inv (mi := iEnumTM (aCons (eVar 0) aNil)) (g := mgTup 2 (mgsCons (mgName 3) (mgsCons (mgName 4) mgsNil))) (body := ccB) (τ := startT 5 [lineT l, .int (size : Nat), lineT others]) (h := h) (h1 := h) (rd := fun _ => some (enumT (l.map fun c => T.int (c : Nat)))) (ts := enumT (l.map fun c => .int (c : Nat)))
    (fun _ τ h' => (∃ a b, τ = [some (lineT l), some (.int (size : Nat)), some (lineT others), a, b]) ∧ h' = h) rfl ⟨⟨none, none, rfl⟩, rfl⟩ (fun _ _ _ _ => rfl) (fun i hi τ h' J => by
      obtain ⟨⟨a, b, rfl⟩, rfl⟩ := J
      have hi2 : i < l.length := by simpa [enumT] using hi
      have ei : (enumT (l.map fun c => T.int (c : Nat)))[i] = .tup [.int (i : Nat), .int ((l[i] : Nat) : Int)] := by simp [enumT]
      rw [ei]
      refine ⟨[some (lineT l), some (.int (size : Nat)), some (lineT others), some (.int (i : Nat)), some (.int ((l[i] : Nat) : Int))], h', [some (lineT l), some (.int (size : Nat)), some (lineT others), some (.int (i : Nat)), some (.int ((l[i] : Nat) : Int))], h', rfl, .inl ?_, ⟨some (.int (i : Nat)), some (.int ((l[i] : Nat) : Int)), rfl⟩, rfl⟩
      obtain ⟨τ1, hτ⟩ : ∃ τ1, τ1 = [some (lineT l), some (T.int (size : Nat)), some (lineT others), some (T.int (i : Nat)), some (T.int ((l[i] : Nat) : Int))] := ⟨_, rfl⟩
      rw [← hτ]
      have v0 : eVar 0 τ1 h' = .ok (lineT l) h' := by rw [hτ]; rfl
      have v1 : eVar 1 τ1 h' = .ok (.int (size : Nat)) h' := by rw [hτ]; rfl
      have v2 : eVar 2 τ1 h' = .ok (lineT others) h' := by rw [hτ]; rfl
      have v3 : eVar 3 τ1 h' = .ok (.int (i : Nat)) h' := by rw [hτ]; rfl
      have v4 : eVar 4 τ1 h' = .ok (.int ((l[i] : Nat) : Int)) h' := by rw [hτ]; rfl
      have nil : aNil τ1 h' = .ok [] h' := rfl
      have lt := L.lt l[i] (List.getElem_mem hi2)
      have B := (call_ok (b := m_is_between) (cons_ok v4 (cons_ok (rfl : eK (.int 0) τ1 h' = .ok (.int 0) h') (cons_ok ((op_ok (b := TL.bSub) v1 (rfl : eK (.int 1) τ1 h' = .ok (.int 1) h')).trans (hSub _ _ h')) nil)))).trans (between_ok _ _ _ h')
      rw [decide_eq_true (show (0 : Int) ≤ (l[i] : Nat) by omega), decide_eq_true (show ((l[i] : Nat) : Int) ≤ (size : Int) - 1 by omega)] at B
      have C := test_ok ((op_ok (b := TL.bGt) v3 (rfl : eK (.int 0) τ1 h' = .ok (.int 0) h')).trans (hGt _ _ h'))
      have D : TL.bAnd (bTest (eOp TL.bGt (eVar 3) (eK (.int 0)))) (bTest (eOp TL.bLe (eVar 4) (eOp TL.bIx (eVar 0) (eOp TL.bSub (eVar 3) (eK (.int 1)))))) τ1 h' = .ok false h' := by
        have D := hAnd (d := (bTest (eOp TL.bLe (eVar 4) (eOp TL.bIx (eVar 0) (eOp TL.bSub (eVar 3) (eK (.int 1))))))) (q := false) C fun g => by
          have g := of_decide_eq_true g
          have ix : TL.bIx (lineT l) (.int ((i : Int) - 1)) h' = .ok (.int ((l[i - 1] : Nat) : Int)) h' := by
            have : atI (l.map fun c => T.int (c : Nat)) ((i : Int) - 1) = some (.int ((l[i - 1] : Nat) : Int)) := by
              rw [ix_nn (by omega) (by rw [List.length_map]; omega)]
              have e : ((i : Int) - 1).toNat = i - 1 := by omega
              rw [e, List.getElem?_map, List.getElem?_eq_getElem (by omega)]
              rfl
            unfold lineT
            simp only [TL.bIx, this]
          have E := (op_ok (b := TL.bIx) v0 ((op_ok (b := TL.bSub) v3 (rfl : eK (.int 1) τ1 h' = .ok (.int 1) h')).trans (hSub _ _ h'))).trans ix
          have F := test_ok ((op_ok (b := TL.bLe) v4 E).trans (hLe _ _ h'))
          have asc := List.pairwise_iff_getElem.mp L.asc (i - 1) i (by omega) hi2 (by omega)
          rw [decide_eq_false (by omega)] at F
          exact F
        simpa using D
      have G := test_ok ((op_ok (b := TL.bIn) v4 v2).trans (in_line _ _ h'))
      rw [decide_eq_false (L.out _ (List.getElem_mem hi2))] at G
      exact (if_f (hOr (hNot (test_ok B)) fun _ => hOr D fun _ => G)).trans rfl)
  show defM 5 3 s_check_cells _ _ = _
  rw [cc_eq]
  exact defM_nx rfl ((seq_nx ((if_f (hNot A)).trans rfl)).trans z)
def standT (size : Nat) (rows : List (List Nat)) (mine its : List Nat) : T := .obj 1 [boardT size rows, lineT mine, lineT its]
theorem stand_ok {size : Nat} {rows : List (List Nat)} {mine its : List Nat} (M : Hand size mine []) (I : Hand size its mine) {h : VH} (hl : h.all (VO.lowR h.length) = true) : cutM (makeM 1 m_Stand___init__) [boardT size rows, lineT mine, lineT its] h = .ok (standT size rows mine its) h := by
  have c0 : ∀ k : VH, m_check_board [boardT size rows] k = .ok .non k := fun k => rfl
  have c1 : ∀ k : VH, m_check_cells [lineT mine, .int (size : Nat), .tup []] k = .ok .non k := fun k => cells_ok M k
  have c2 : ∀ k : VH, m_check_cells [lineT its, .int (size : Nat), lineT mine] k = .ok .non k := fun k => cells_ok I k
  have pz : ∀ k : VH, ∀ τ : TS_, eVar 1 τ k = .ok (boardT size rows) k → eProp 0 m_Board_size (eVar 1) τ k = .ok (.int (size : Nat)) k := fun k τ e => by
    unfold eProp
    rw [e]
    rfl
  have g0 : (h ++ [VO.ins 1 []])[h.length]? = some (.ins 1 []) := by simp
  have s1 : (h ++ [VO.ins 1 []]).set h.length (.ins 1 [boardT size rows]) = h ++ [.ins 1 [boardT size rows]] := by simp
  have g1 : (h ++ [VO.ins 1 [boardT size rows]])[h.length]? = some (.ins 1 [boardT size rows]) := by simp
  have s2 : (h ++ [VO.ins 1 [boardT size rows]]).set h.length (.ins 1 [boardT size rows, lineT mine]) = h ++ [.ins 1 [boardT size rows, lineT mine]] := by simp
  have g2 : (h ++ [VO.ins 1 [boardT size rows, lineT mine]])[h.length]? = some (.ins 1 [boardT size rows, lineT mine]) := by simp
  have s3 : (h ++ [VO.ins 1 [boardT size rows, lineT mine]]).set h.length (.ins 1 [boardT size rows, lineT mine, lineT its]) = h ++ [.ins 1 [boardT size rows, lineT mine, lineT its]] := by simp
  have hm : m_Stand___init__ [.ref h.length, boardT size rows, lineT mine, lineT its] (h ++ [.ins 1 []]) = .ok .non (h ++ [.ins 1 [boardT size rows, lineT mine, lineT its]]) := by
    have pp := pz (h ++ [.ins 1 []]) [some (.ref h.length), some (boardT size rows), some (lineT mine), some (lineT its)] rfl
    have et : startT 4 [.ref h.length, boardT size rows, lineT mine, lineT its] = [some (.ref h.length), some (boardT size rows), some (lineT mine), some (lineT its)] := rfl
    have S1 : sExpr (eCall m_check_board (aCons (eVar 1) aNil)) [some (.ref h.length), some (boardT size rows), some (lineT mine), some (lineT its)] (h ++ [.ins 1 []]) = .nx [some (.ref h.length), some (boardT size rows), some (lineT mine), some (lineT its)] (h ++ [.ins 1 []]) := expr_ok ((call_ok (ts := [boardT size rows]) rfl).trans (c0 _))
    have S2 : sExpr (eCall m_check_cells (aCons (eVar 2) (aCons (eProp 0 m_Board_size (eVar 1)) (aCons (eTup aNil) aNil)))) [some (.ref h.length), some (boardT size rows), some (lineT mine), some (lineT its)] (h ++ [.ins 1 []]) = .nx [some (.ref h.length), some (boardT size rows), some (lineT mine), some (lineT its)] (h ++ [.ins 1 []]) := expr_ok ((call_ok (ts := [lineT mine, .int (size : Nat), .tup []]) (cons_ok rfl (cons_ok pp rfl))).trans (c1 _))
    have S3 : sExpr (eCall m_check_cells (aCons (eVar 3) (aCons (eProp 0 m_Board_size (eVar 1)) (aCons (eVar 2) aNil)))) [some (.ref h.length), some (boardT size rows), some (lineT mine), some (lineT its)] (h ++ [.ins 1 []]) = .nx [some (.ref h.length), some (boardT size rows), some (lineT mine), some (lineT its)] (h ++ [.ins 1 []]) := expr_ok ((call_ok (ts := [lineT its, .int (size : Nat), lineT mine]) (cons_ok rfl (cons_ok pp rfl))).trans (c2 _))
    refine defM_nx (τ := [some (.ref h.length), some (boardT size rows), some (lineT mine), some (lineT its)]) rfl ?_
    rw [et]
    refine (seq_nx S1).trans ((seq_nx S2).trans ((seq_nx S3).trans ?_))
    simp [sAsg, eTup, aCons, aNil, eVar, mgTup, mgsCons, mgFld, mgsNil, g0, s1, g1, s2, g2, s3]
  have ht : (h ++ [VO.ins 1 [boardT size rows, lineT mine, lineT its]]).take h.length = h := by simp
  have bl : ∀ n, (boardT size rows).lowR n = true := fun n => by
    unfold boardT
    simp only [T.lowR, lowRs, rows_low, Bool.and_self]
  have fz : frz h.length (h ++ [.ins 1 [boardT size rows, lineT mine, lineT its]]) 4 (.ref h.length) = some (standT size rows mine its) := by
    have l1 : T.lowR h.length (.ref h.length) = false := by simp [T.lowR]
    have g3 : (h ++ [VO.ins 1 [boardT size rows, lineT mine, lineT its]])[h.length]? = some (.ins 1 [boardT size rows, lineT mine, lineT its]) := by simp
    have k1 : frz h.length (h ++ [.ins 1 [boardT size rows, lineT mine, lineT its]]) 3 (boardT size rows) = some (boardT size rows) := by unfold frz; rw [if_pos (bl _)]
    have k2 : ∀ l, frz h.length (h ++ [.ins 1 [boardT size rows, lineT mine, lineT its]]) 3 (lineT l) = some (lineT l) := fun l => by unfold frz; rw [if_pos (line_low l _)]
    unfold frz
    rw [l1]
    simp only [Bool.false_eq_true, if_false, g3]
    simp [k1, k2, standT]
  unfold cutM makeM
  rw [hm]
  simp only [ht, hl, fz, if_true]
end BD
namespace BD
open PySem L2 TL K13
section
variable {size : Nat} {rows : List (List Nat)} {mine its : List Nat}
def freeL (size : Nat) (mine its : List Nat) : List Nat := (List.range size).filter fun c => !decide (c ∈ mine) && !decide (c ∈ its)
def liveB (its l : List Nat) : Bool := !l.any fun c => decide (c ∈ its)
def restL (mine l : List Nat) : List Nat := l.filter fun c => !decide (c ∈ mine)
def restsL (rows : List (List Nat)) (mine its : List Nat) : List (List Nat) := (rows.filter (liveB its)).map (restL mine)
theorem fld0 {f : ME} {τ : TS_} {h : VH} (e : f τ h = .ok (standT size rows mine its) h) : eFld 1 0 f τ h = .ok (boardT size rows) h := by unfold eFld; rw [e]; rfl
theorem fld1 {f : ME} {τ : TS_} {h : VH} (e : f τ h = .ok (standT size rows mine its) h) : eFld 1 1 f τ h = .ok (lineT mine) h := by unfold eFld; rw [e]; rfl
theorem fld2 {f : ME} {τ : TS_} {h : VH} (e : f τ h = .ok (standT size rows mine its) h) : eFld 1 2 f τ h = .ok (lineT its) h := by unfold eFld; rw [e]; rfl
theorem bfld1 {f : ME} {τ : TS_} {h : VH} (e : f τ h = .ok (boardT size rows) h) : eFld 0 1 f τ h = .ok (.int (size : Nat)) h := by unfold eFld; rw [e]; rfl
theorem bfld2 {f : ME} {τ : TS_} {h : VH} (e : f τ h = .ok (boardT size rows) h) : eFld 0 2 f τ h = .ok (rowsLT rows) h := by unfold eFld; rw [e]; rfl
theorem free_ok (s1 : size ≤ 100000) (h : VH) : m_Stand_free [standT size rows mine its] h = .ok (lineT (freeL size mine its)) h := by
  have v0 : ∀ c, eVar 0 [some (standT size rows mine its), c] h = .ok (standT size rows mine its) h := fun _ => rfl
  have mi : iRange1 (aCons (eFld 0 1 (eFld 1 0 (eVar 0))) aNil) [some (standT size rows mine its), none] h = .ok (fun _ => some (rangeT 0 size)) h := by
    have A := cons_ok (bfld1 (fld0 (v0 none))) (rfl : aNil [some (standT size rows mine its), none] h = .ok [] h)
    unfold iRange1
    rw [A]
    simp only
    rw [if_pos ⟨by omega, by omega⟩, Int.toNat_natCast]
  have z := mLc_pure (mi := iRange1 (aCons (eFld 0 1 (eFld 1 0 (eVar 0))) aNil)) (ws := [1]) (g := mgName 1) (c := TL.bAnd (bTest (eOp TL.bNin (eVar 1) (eFld 1 1 (eVar 0)))) (bTest (eOp TL.bNin (eVar 1) (eFld 1 2 (eVar 0))))) (e := eVar 1) (τ := [some (standT size rows mine its), none]) (h := h) (ts := rangeT 0 size) mi rfl (by rw [range_len]; omega)
    (fun t => match t with | .int i => !decide (i.toNat ∈ mine) && !decide (i.toNat ∈ its) | _ => false) (fun t => t) (fun t ht => by
      obtain ⟨i, hi, rfl⟩ := List.getElem_of_mem ht
      obtain ⟨hi2, ei⟩ := range_at hi
      rw [ei, Int.zero_add]
      refine ⟨[some (standT size rows mine its), some (.int (i : Nat))], rfl, ?_, fun _ => rfl⟩
      have v1 : eVar 1 [some (standT size rows mine its), some (.int (i : Nat))] h = .ok (.int (i : Nat)) h := rfl
      have A := test_ok ((op_ok (b := TL.bNin) v1 (fld1 (v0 _))).trans (nin_line i mine h))
      have B := test_ok ((op_ok (b := TL.bNin) v1 (fld2 (v0 _))).trans (nin_line i its h))
      exact hAnd A fun _ => B)
  have e : ((rangeT 0 size).filter fun t => match t with | .int i => !decide (i.toNat ∈ mine) && !decide (i.toNat ∈ its) | _ => false).map (fun t => t) = (freeL size mine its).map fun c => T.int (c : Nat) := by
    rw [List.map_id']
    unfold rangeT freeL
    rw [List.filter_map]
    have : ∀ l : List Nat, List.map (fun i : Nat => T.int (0 + (i : Int))) l = l.map fun c => T.int (c : Nat) := fun l => List.map_congr_left fun c _ => by rw [Int.zero_add]
    rw [this]
    refine congrArg (List.map _) (List.filter_congr fun c _ => ?_)
    show (!decide ((0 + (c : Int)).toNat ∈ mine) && !decide ((0 + (c : Int)).toNat ∈ its)) = _
    rw [Int.zero_add, Int.toNat_natCast]
  rw [e] at z
  exact defM_rt rfl (ret_ok ((call_ok (b := fTuple) (cons_ok (eL_ok z) rfl)).trans rfl))
theorem live_ok (l its : List Nat) (hl : l.length ≤ 1000) (h : VH) : m_is_live [lineT l, lineT its] h = .ok (.bl (liveB its l)) h := by
  have z := mLc_map (mi := iSeqC (eVar 0)) (ws := [2]) (g := mgName 2) (e := eOp TL.bIn (eVar 2) (eVar 1)) (τ := startT 3 [lineT l, lineT its]) (h := h) (rd := fun h => seqS h (lineT l)) (ts := l.map fun c => T.int (c : Nat)) rfl rfl (by rw [List.length_map]; omega) (fun t => match t with | .int i => .bl (decide (i.toNat ∈ its)) | t => t) (fun t ht => by
    obtain ⟨c, _, rfl⟩ := List.mem_map.mp ht
    exact ⟨[some (lineT l), some (lineT its), some (.int (c : Nat))], rfl, (op_ok (b := TL.bIn) rfl rfl).trans (in_line c its h)⟩)
  rw [List.map_map] at z
  have a := (call_ok (b := fAny) (τ := startT 3 [lineT l, lineT its]) (cons_ok (eL_ok z) (rfl : aNil _ h = .ok [] h))).trans (hAny l (fun c => decide (c ∈ its)) h)
  exact defM_rt rfl (ret_ok (hEnot a))
theorem rest_ok (l mine : List Nat) (hl : l.length ≤ 1000) (h : VH) : m_rest_of [lineT l, lineT mine] h = .ok (lineT (restL mine l)) h := by
  have z := mLc_pure (mi := iSeqC (eVar 0)) (ws := [2]) (g := mgName 2) (c := bTest (eOp TL.bNin (eVar 2) (eVar 1))) (e := eVar 2) (τ := startT 3 [lineT l, lineT mine]) (h := h) (rd := fun h => seqS h (lineT l)) (ts := l.map fun c => T.int (c : Nat)) rfl rfl (by rw [List.length_map]; omega) (fun t => match t with | .int i => !decide (i.toNat ∈ mine) | _ => false) (fun t => t) (fun t ht => by
    obtain ⟨c, _, rfl⟩ := List.mem_map.mp ht
    exact ⟨[some (lineT l), some (lineT mine), some (.int (c : Nat))], rfl, test_ok ((op_ok (b := TL.bNin) rfl rfl).trans (nin_line c mine h)), fun _ => rfl⟩)
  rw [List.map_id', List.filter_map] at z
  exact defM_rt rfl (ret_ok ((call_ok (b := fTuple) (cons_ok (eL_ok z) rfl)).trans rfl))
def restsT (rs : List (List Nat)) : T := .tup (rs.map lineT)
theorem rests_ok (R : Rows size rows) (h : VH) : m_Stand_rests [standT size rows mine its] h = .ok (restsT (restsL rows mine its)) h := by
  have v0 : ∀ c, eVar 0 [some (standT size rows mine its), c] h = .ok (standT size rows mine its) h := fun _ => rfl
  have mi : iSeqC (eFld 0 2 (eFld 1 0 (eVar 0))) [some (standT size rows mine its), none] h = .ok (fun h => seqS h (rowsLT rows)) h := by
    unfold iSeqC
    rw [bfld2 (fld0 (v0 none))]
    rfl
  have sh : ∀ l ∈ rows, l.length ≤ 1000 := fun l hl => by
    have := (R.line l hl).len
    have := R.s1
    omega
  have z := mLc_pure (mi := iSeqC (eFld 0 2 (eFld 1 0 (eVar 0)))) (ws := [1]) (g := mgName 1) (c := bTest (eCall m_is_live (aCons (eVar 1) (aCons (eFld 1 2 (eVar 0)) aNil)))) (e := eCall m_rest_of (aCons (eVar 1) (aCons (eFld 1 1 (eVar 0)) aNil))) (τ := [some (standT size rows mine its), none]) (h := h) (ts := rows.map lineT) mi rfl (by rw [List.length_map]; have := R.len; omega)
    (fun t => match m_is_live [t, lineT its] h with | .ok (.bl b) _ => b | _ => false) (fun t => match m_rest_of [t, lineT mine] h with | .ok u _ => u | _ => .non) (fun t ht => by
      obtain ⟨l, hl, rfl⟩ := List.mem_map.mp ht
      refine ⟨[some (standT size rows mine its), some (lineT l)], rfl, ?_, fun _ => ?_⟩
      · have A := live_ok l its (sh l hl) h
        show _ = Res.ok (match m_is_live [lineT l, lineT its] h with | .ok (.bl b) _ => b | _ => false) h
        rw [A]
        exact test_ok ((call_ok (b := m_is_live) (cons_ok (rfl : eVar 1 _ h = .ok (lineT l) h) (cons_ok (fld2 (v0 _)) rfl))).trans A)
      · have A := rest_ok l mine (sh l hl) h
        show _ = Res.ok (match m_rest_of [lineT l, lineT mine] h with | .ok u _ => u | _ => .non) h
        rw [A]
        exact (call_ok (b := m_rest_of) (cons_ok (rfl : eVar 1 _ h = .ok (lineT l) h) (cons_ok (fld1 (v0 _)) rfl))).trans A)
  have e : ((rows.map lineT).filter fun t => match m_is_live [t, lineT its] h with | .ok (.bl b) _ => b | _ => false).map (fun t => match m_rest_of [t, lineT mine] h with | .ok u _ => u | _ => T.non) = (restsL rows mine its).map lineT := by
    unfold restsL
    rw [List.filter_map, List.map_map, List.map_map]
    have f1 : rows.filter ((fun t => match m_is_live [t, lineT its] h with | .ok (.bl b) _ => b | _ => false) ∘ lineT) = rows.filter (liveB its) := List.filter_congr fun l hl => by
      have A := live_ok l its (sh l hl) h
      show (match m_is_live [lineT l, lineT its] h with | .ok (.bl b) _ => b | _ => false) = _
      rw [A]
    rw [f1]
    refine List.map_congr_left fun l hl => ?_
    have A := rest_ok l mine (sh l (List.mem_filter.mp hl).1) h
    show (match m_rest_of [lineT l, lineT mine] h with | .ok u _ => u | _ => T.non) = _
    rw [A]
    rfl
  rw [e] at z
  exact defM_rt rfl (ret_ok ((call_ok (b := fTuple) (cons_ok (eL_ok z) rfl)).trans rfl))
theorem pFree (s1 : size ≤ 100000) {f : ME} {τ : TS_} {h : VH} (e : f τ h = .ok (standT size rows mine its) h) : eProp 1 m_Stand_free f τ h = .ok (lineT (freeL size mine its)) h := by
  unfold eProp
  rw [e]
  exact free_ok s1 h
theorem pRests (R : Rows size rows) {f : ME} {τ : TS_} {h : VH} (e : f τ h = .ok (standT size rows mine its) h) : eProp 1 m_Stand_rests f τ h = .ok (restsT (restsL rows mine its)) h := by
  unfold eProp
  rw [e]
  exact rests_ok R h
theorem chk_stand (h : VH) : m_check_stand [standT size rows mine its] h = .ok .non h := rfl
theorem chk_many {m : Nat} (h1 : 1 ≤ m) (h9 : m ≤ 9) (h : VH) : m_check_many [.int (m : Nat)] h = .ok .non h := by
  have A := (call_ok (b := m_is_between) (τ := startT 1 [.int (m : Nat)]) (ts := [.int (m : Nat), .int 1, .int 9]) (g := aCons (eVar 0) (aCons (eK (.int 1)) (aCons (eK (.int 9)) aNil))) rfl).trans (between_ok _ _ _ h)
  rw [decide_eq_true (by omega), decide_eq_true (by omega)] at A
  exact defM_nx rfl ((if_f (hNot (test_ok A))).trans rfl)
theorem free_mem {c : Nat} : c ∈ freeL size mine its ↔ c < size ∧ c ∉ mine ∧ c ∉ its := by
  unfold freeL
  rw [List.mem_filter, List.mem_range]
  simp [Bool.and_eq_true]
end
end BD
namespace BD
open PySem L2 TL K13
theorem hMul {i j : Int} (hj : -1000000000000000000 < j ∧ j < 1000000000000000000) (h : VH) : TL.bMul (.int i) (.int j) h = .ok (.int (i * j)) h := by
  have c : cMul i j = true := by
    unfold cMul
    rw [Bool.or_eq_true, Bool.and_eq_true, Bool.and_eq_true]
    exact .inr ⟨decide_eq_true hj.1, decide_eq_true hj.2⟩
  unfold TL.bMul
  simp only [c, if_true]
def pwB : MS := (sSet 2 (eOp TL.bMul (eVar 2) (eVar 0)))
theorem pw_eq : s_power = sSeq (sSet 2 (eK (.int 1))) (sSeq (sFor (iRange1 (aCons (eVar 1) aNil)) (mgName 3) pwB) (sRet (eVar 2))) := rfl
theorem power_ok {b n : Nat} (hb : b ≤ 1000) (hn : n ≤ 100000) (h : VH) : m_power [.int (b : Nat), .int (n : Nat)] h = .ok (.int ((b ^ n : Nat) : Int)) h := by
  have mi : iRange1 (aCons (eVar 1) aNil) [some (T.int (b : Nat)), some (.int (n : Nat)), some (.int 1), none] h = .ok (fun _ => some (rangeT 0 n)) h := by
    unfold iRange1
    rw [cons_ok (rfl : eVar 1 [some (T.int (b : Nat)), some (.int (n : Nat)), some (.int 1), none] h = .ok (.int (n : Nat)) h) (rfl : aNil [some (T.int (b : Nat)), some (.int (n : Nat)), some (.int 1), none] h = .ok [] h)]
    simp only
    rw [if_pos ⟨by omega, by omega⟩, Int.toNat_natCast]
  obtain ⟨τ', h', z, ⟨c, rfl⟩, rfl⟩ := sFor_inv (mi := iRange1 (aCons (eVar 1) aNil)) (g := mgName 3) (body := pwB) (τ := [some (T.int (b : Nat)), some (.int (n : Nat)), some (.int 1), none]) (h := h) (h1 := h) (rd := fun _ => some (rangeT 0 n)) (ts := rangeT 0 n)
    (fun i τ h' => (∃ c, τ = [some (.int (b : Nat)), some (.int (n : Nat)), some (.int ((b ^ i : Nat) : Int)), c]) ∧ h' = h) mi ⟨⟨none, rfl⟩, rfl⟩ (fun _ _ _ _ => rfl) (fun i hi τ h' J => by
      obtain ⟨⟨c, rfl⟩, rfl⟩ := J
      refine ⟨[some (.int (b : Nat)), some (.int (n : Nat)), some (.int ((b ^ i : Nat) : Int)), some (rangeT 0 n)[i]], h', [some (.int (b : Nat)), some (.int (n : Nat)), some (.int ((b ^ (i + 1) : Nat) : Int)), some (rangeT 0 n)[i]], h', rfl, .inl ?_, ⟨_, rfl⟩, rfl⟩
      have A := (op_ok (b := TL.bMul) (rfl : eVar 2 [some (T.int (b : Nat)), some (.int (n : Nat)), some (.int ((b ^ i : Nat) : Int)), some (rangeT 0 n)[i]] h' = .ok (.int ((b ^ i : Nat) : Int)) h') (rfl : eVar 0 [some (T.int (b : Nat)), some (.int (n : Nat)), some (.int ((b ^ i : Nat) : Int)), some (rangeT 0 n)[i]] h' = .ok (.int (b : Nat)) h')).trans (hMul (by omega) h')
      have e : ((b ^ i : Nat) : Int) * (b : Nat) = ((b ^ (i + 1) : Nat) : Int) := by rw [Nat.pow_succ, Int.natCast_mul]
      rw [e] at A
      exact (set_ok (i := 2) A).trans rfl)
  rw [range_len] at z
  show defM 4 2 s_power _ _ = _
  rw [pw_eq]
  refine defM_rt rfl ((seq_nx (rfl : sSet 2 (eK (.int 1)) (startT 4 [T.int (b : Nat), .int (n : Nat)]) h' = .nx [some (T.int (b : Nat)), some (.int (n : Nat)), some (.int 1), none] h')).trans ((seq_nx z).trans (ret_ok ?_)))
  rfl
theorem gcd_loop {c : MB} {body : MS} {st : Nat → Nat → TS_} (hc : ∀ a b h, c (st a b) h = .ok (decide (0 < b)) h) (hb : ∀ a b h, 0 < b → body (st a b) h = .nx (st b (a % b)) h) :
    ∀ (k a b fuel : Nat) (h : VH), b < 2 ^ k → 2 * k + 1 ≤ fuel → whileL c body fuel (st a b) h = .nx (st (Nat.gcd a b) 0) h := by
  intro k
  induction k with
  | zero =>
    intro a b fuel h lt le
    obtain rfl : b = 0 := by simp at lt; omega
    obtain ⟨f, rfl⟩ : ∃ f, fuel = f + 1 := ⟨fuel - 1, by omega⟩
    unfold whileL
    rw [hc]
    simp
  | succ k ih =>
    intro a b fuel h lt le
    obtain ⟨f, rfl⟩ : ∃ f, fuel = f + 1 + 1 := ⟨fuel - 2, by omega⟩
    by_cases b0 : b = 0
    · subst b0
      unfold whileL
      rw [hc]
      simp
    · have bp : 0 < b := by omega
      have g1 : Nat.gcd a b = Nat.gcd b (a % b) := by rw [Nat.gcd_comm a b, Nat.gcd_rec b a, Nat.gcd_comm]
      have s1 : whileL c body (f + 1 + 1) (st a b) h = whileL c body (f + 1) (st b (a % b)) h := by
        conv => lhs; unfold whileL
        rw [hc, decide_eq_true bp]
        simp only [hb a b h bp]
      rw [s1, g1]
      by_cases r0 : a % b = 0
      · rw [r0]
        unfold whileL
        rw [hc]
        simp
      · have rp : 0 < a % b := by omega
        have g2 : Nat.gcd b (a % b) = Nat.gcd (a % b) (b % (a % b)) := by rw [Nat.gcd_comm b, Nat.gcd_rec (a % b) b, Nat.gcd_comm]
        have s2 : whileL c body (f + 1) (st b (a % b)) h = whileL c body f (st (a % b) (b % (a % b))) h := by
          conv => lhs; unfold whileL
          rw [hc, decide_eq_true rp]
          simp only [hb b (a % b) h rp]
        rw [s2, g2]
        have l1 := Nat.mod_lt b rp
        have l2 := Nat.mod_lt a bp
        have l3 : b % (a % b) + (a % b) ≤ b := by
          have e := Nat.mod_add_div b (a % b)
          have q : 1 ≤ b / (a % b) := (Nat.one_le_div_iff rp).mpr (by omega)
          have m : (a % b) * 1 ≤ (a % b) * (b / (a % b)) := Nat.mul_le_mul_left _ q
          omega
        refine ih _ _ f h ?_ (by omega)
        rw [Nat.pow_succ] at lt
        omega
theorem hMod {i j : Nat} (hj : 0 < j) (h : VH) : TL.bMod (.int (i : Nat)) (.int (j : Nat)) h = .ok (.int ((i % j : Nat) : Int)) h := by
  have c : decide ((0 : Int) < (j : Nat)) = true := decide_eq_true (by omega)
  simp only [TL.bMod, bI, c, if_true, Int.natCast_emod]
theorem log_small {j : Nat} (hb : j < 2 ^ 400) : j.log2 < 9000 := by
  rcases Nat.lt_or_ge j.log2 9000 with c | c
  · exact c
  · exfalso
    have p : 2 ^ j.log2 ≤ j := Nat.log2_self_le (by rintro rfl; simp at c)
    have q : 2 ^ 400 ≤ 2 ^ j.log2 := Nat.pow_le_pow_right (by omega) (by omega)
    omega
theorem hFdv {i j : Nat} (hj : 0 < j) (hb : j < 2 ^ 400) (h : VH) : TL.bFdvW (.int (i : Nat)) (.int (j : Nat)) h = .ok (.int ((i / j : Nat) : Int)) h := by
  have c : (decide ((0 : Int) < (j : Nat)) && decide (((j : Nat) : Int).natAbs.log2 < 9000)) = true := by
    rw [Int.natAbs_natCast, decide_eq_true (by omega), decide_eq_true (log_small hb)]
    rfl
  simp only [TL.bFdvW, bI, c, if_true, Int.natCast_ediv]
theorem divisor_ok {a b : Nat} (hb : b < 2 ^ 400) (h : VH) : m_divisor [.int (a : Nat), .int (b : Nat)] h = .ok (.int ((Nat.gcd a b : Nat) : Int)) h := by
  have z := gcd_loop (c := bTest (eOp TL.bGt (eVar 1) (eK (.int 0)))) (body := sPar 0 1 (aCons (eVar 1) (aCons (eOp TL.bMod (eVar 0) (eVar 1)) aNil))) (st := fun a b => [some (T.int (a : Nat)), some (.int (b : Nat))]) (fun a b h => by
      refine test_ok ((op_ok (b := TL.bGt) (rfl : eVar 1 _ h = .ok (.int (b : Nat)) h) rfl).trans ((hGt _ _ h).trans ?_))
      have : decide ((0 : Int) < (b : Nat)) = decide (0 < b) := decide_eq_decide.mpr (by omega)
      rw [this]) (fun a b h bp => by
      have A := (op_ok (b := TL.bMod) (rfl : eVar 0 [some (T.int (a : Nat)), some (.int (b : Nat))] h = .ok (.int (a : Nat)) h) (rfl : eVar 1 [some (T.int (a : Nat)), some (.int (b : Nat))] h = .ok (.int (b : Nat)) h)).trans (hMod bp h)
      unfold sPar
      rw [cons_ok (rfl : eVar 1 [some (T.int (a : Nat)), some (.int (b : Nat))] h = .ok (.int (b : Nat)) h) (cons_ok A rfl)]
      rfl) 400 a b 1000 h hb (by omega)
  exact defM_rt rfl ((seq_nx z).trans (ret_ok rfl))
theorem reduced_ok {x y : Nat} (hy : 0 < y) (hb : y < 2 ^ 400) (h : VH) : m_reduced [.tup [.int (x : Nat), .int (y : Nat)]] h = .ok (.tup [.int ((x / Nat.gcd x y : Nat) : Int), .int ((y / Nat.gcd x y : Nat) : Int)]) h := by
  have gp : 0 < Nat.gcd x y := Nat.gcd_pos_of_pos_right _ hy
  have gb : Nat.gcd x y < 2 ^ 400 := Nat.lt_of_le_of_lt (Nat.gcd_le_right _ hy) hb
  have i0 : TL.bIx (.tup [.int (x : Nat), .int (y : Nat)]) (.int 0) h = .ok (.int (x : Nat)) h := rfl
  have i1 : TL.bIx (.tup [.int (x : Nat), .int (y : Nat)]) (.int 1) h = .ok (.int (y : Nat)) h := rfl
  have s1 : sSet 1 (eCall m_divisor (aCons (eOp TL.bIx (eVar 0) (eK (.int 0))) (aCons (eOp TL.bIx (eVar 0) (eK (.int 1))) aNil))) (startT 2 [.tup [.int (x : Nat), .int (y : Nat)]]) h = .nx [some (.tup [.int (x : Nat), .int (y : Nat)]), some (.int ((Nat.gcd x y : Nat) : Int))] h :=
    set_ok (i := 1) ((call_ok (b := m_divisor) (ts := [.int (x : Nat), .int (y : Nat)]) rfl).trans (divisor_ok hb h))
  obtain ⟨τ, hτ⟩ : ∃ τ, τ = [some (T.tup [.int (x : Nat), .int (y : Nat)]), some (.int ((Nat.gcd x y : Nat) : Int))] := ⟨_, rfl⟩
  rw [← hτ] at s1
  have v0 : eVar 0 τ h = .ok (.tup [.int (x : Nat), .int (y : Nat)]) h := by rw [hτ]; rfl
  have v1 : eVar 1 τ h = .ok (.int ((Nat.gcd x y : Nat) : Int)) h := by rw [hτ]; rfl
  have A := (op_ok (b := TL.bFdvW) ((op_ok (b := TL.bIx) v0 (rfl : eK (.int 0) τ h = .ok (.int 0) h)).trans i0) v1).trans (hFdv gp gb h)
  have B := (op_ok (b := TL.bFdvW) ((op_ok (b := TL.bIx) v0 (rfl : eK (.int 1) τ h = .ok (.int 1) h)).trans i1) v1).trans (hFdv gp gb h)
  refine defM_rt rfl ((seq_nx s1).trans (ret_ok ?_))
  unfold eTup
  rw [cons_ok A (cons_ok B (rfl : aNil τ h = .ok [] h))]
  rfl
end BD
namespace BD
open PySem L2 TL K13
theorem asc_sub : ∀ {m l : List Nat}, m.Pairwise (· < ·) → l.Pairwise (· < ·) → (∀ c ∈ l, c ∈ m) → l.length ≤ m.length
  | [], l, _, _, h => by
    cases l with
    | nil => exact Nat.le_refl _
    | cons c l => cases h c List.mem_cons_self
  | b :: m, [], _, _, _ => Nat.zero_le _
  | b :: m, a :: l, hm, hl, h => by
    rw [List.pairwise_cons] at hm hl
    have key : ∀ c ∈ l, c ∈ m := fun c hc => by
      rcases List.mem_cons.mp (h c (List.mem_cons_of_mem _ hc)) with rfl | q
      · exfalso
        have ac := hl.1 c hc
        rcases List.mem_cons.mp (h a List.mem_cons_self) with e | q
        · omega
        · have := hm.1 a q
          omega
      · exact q
    have := asc_sub hm.2 hl.2 key
    simp only [List.length_cons]
    omega
section
variable {size : Nat} {rows : List (List Nat)} {mine its : List Nat}
theorem free_asc : (freeL size mine its).Pairwise (· < ·) := List.Pairwise.filter _ List.pairwise_lt_range
theorem rest_mem {r : List Nat} (R : Rows size rows) (hr : r ∈ restsL rows mine its) : r.Pairwise (· < ·) ∧ ∀ c ∈ r, c ∈ freeL size mine its := by
  obtain ⟨l, hl, rfl⟩ := List.mem_map.mp hr
  obtain ⟨h1, h2⟩ := List.mem_filter.mp hl
  refine ⟨List.Pairwise.filter _ (R.line l h1).asc, fun c hc => ?_⟩
  obtain ⟨c1, c2⟩ := List.mem_filter.mp hc
  have c3 : c ∉ mine := by simpa using c2
  have c4 : c ∉ its := fun z => by
    unfold liveB at h2
    have : (l.any fun c => decide (c ∈ its)) = true := List.any_eq_true.mpr ⟨c, c1, decide_eq_true z⟩
    rw [this] at h2
    cases h2
  exact free_mem.mpr ⟨(R.line l h1).lt c c1, c3, c4⟩
theorem rest_le {r : List Nat} (R : Rows size rows) (hr : r ∈ restsL rows mine its) : r.length ≤ (freeL size mine its).length := asc_sub free_asc (rest_mem R hr).1 (rest_mem R hr).2
end
def wsum (m F : Nat) (rs : List (List Nat)) : Nat := (rs.map fun r => (m + 1) ^ (F - r.length)).sum
theorem sum_cast : ∀ l : List Nat, (l.map fun n : Nat => (n : Int)).sum = ((l.sum : Nat) : Int)
  | [] => rfl
  | n :: l => by rw [List.map_cons, List.sum_cons, List.sum_cons, sum_cast l, Int.natCast_add]
theorem ints_of (l : List Nat) : intsOf (l.map fun n : Nat => T.int (n : Nat)) = some (l.map fun n : Nat => (n : Int)) := by
  induction l with
  | nil => rfl
  | cons n l ih => show (intsOf (l.map fun n : Nat => T.int (n : Nat))).map ((n : Int) :: ·) = _; rw [ih]; rfl
theorem weight_of_ok {t : T} {rs : List (List Nat)} {m F : Nat} {h : VH} (ht : seqS h t = some (rs.map lineT)) (hm : m ≤ 9) (hF : F ≤ 1000) (hl : rs.length ≤ 1000) (le : ∀ r ∈ rs, r.length ≤ F) : m_weight_of [t, .int (m : Nat), .int (F : Nat)] h = .ok (.tup [.int ((wsum m F rs : Nat) : Int), .int (((m + 1) ^ F : Nat) : Int)]) h := by
  have kk : ∀ c, ∀ u, eK u [some t, some (T.int (m : Nat)), some (.int (F : Nat)), c] h = .ok u h := fun _ _ => rfl
  have M : ∀ c, eOp TL.bAdd (eVar 1) (eK (.int 1)) [some t, some (T.int (m : Nat)), some (.int (F : Nat)), c] h = .ok (.int ((m + 1 : Nat) : Int)) h := fun c => (op_ok (b := TL.bAdd) (rfl : eVar 1 [some t, some (T.int (m : Nat)), some (.int (F : Nat)), c] h = .ok (.int (m : Nat)) h) (kk c _)).trans (hAdd _ _ h)
  have mi : iSeqC (eVar 0) [some t, some (T.int (m : Nat)), some (.int (F : Nat)), none] h = .ok (fun h => seqS h t) h := by
    have w : walkable h t = true := by unfold walkable; rw [ht]; rfl
    show (if walkable h t = true then Res.ok (fun h => seqS h t) h else .bad) = _
    rw [w]
    rfl
  have z := mLc_map (mi := iSeqC (eVar 0)) (ws := [3]) (g := mgName 3) (e := eCall m_power (aCons (eOp TL.bAdd (eVar 1) (eK (.int 1))) (aCons (eOp TL.bSub (eVar 2) (eCall fLen (aCons (eVar 3) aNil))) aNil))) (τ := [some t, some (T.int (m : Nat)), some (.int (F : Nat)), none]) (h := h) (ts := rs.map lineT) mi ht (by rw [List.length_map]; omega)
    (fun t => match t with | .tup us => .int (((m + 1) ^ (F - us.length) : Nat) : Int) | t => t) (fun u hu => by
      obtain ⟨r, hr, rfl⟩ := List.mem_map.mp hu
      have lr := le r hr
      refine ⟨[some t, some (T.int (m : Nat)), some (.int (F : Nat)), some (lineT r)], rfl, ?_⟩
      have L := hLenT (f := eVar 3) (τ := [some t, some (T.int (m : Nat)), some (.int (F : Nat)), some (lineT r)]) (h := h) (ts := r.map fun c => .int (c : Nat)) rfl
      have S := (op_ok (b := TL.bSub) (rfl : eVar 2 [some t, some (T.int (m : Nat)), some (.int (F : Nat)), some (lineT r)] h = .ok (.int (F : Nat)) h) L).trans (hSub _ _ h)
      have e : (F : Int) - ((r.map fun c => T.int (c : Nat)).length : Nat) = ((F - r.length : Nat) : Int) := by rw [List.length_map]; omega
      rw [e] at S
      have P := (call_ok (b := m_power) (cons_ok (M _) (cons_ok S (rfl : aNil _ h = .ok [] h)))).trans (power_ok (b := m + 1) (n := F - r.length) (by omega) (by omega) h)
      have e2 : (r.map fun c => T.int (c : Nat)).length = r.length := List.length_map _
      show _ = Res.ok (T.int (((m + 1) ^ (F - (r.map fun c => T.int (c : Nat)).length) : Nat) : Int)) h
      rw [e2]
      exact P)
  have e : (rs.map lineT).map (fun t => match t with | .tup us => T.int (((m + 1) ^ (F - us.length) : Nat) : Int) | t => t) = (rs.map fun r => (m + 1) ^ (F - r.length)).map fun n : Nat => T.int (n : Nat) := by
    rw [List.map_map, List.map_map]
    refine List.map_congr_left fun r _ => ?_
    show T.int (((m + 1) ^ (F - (r.map fun c => T.int (c : Nat)).length) : Nat) : Int) = _
    rw [List.length_map]
    rfl
  rw [e] at z
  have S : eCall fSum (aCons (eL (mLc (iSeqC (eVar 0)) [3] (mgName 3) bYes (eCall m_power (aCons (eOp TL.bAdd (eVar 1) (eK (.int 1))) (aCons (eOp TL.bSub (eVar 2) (eCall fLen (aCons (eVar 3) aNil))) aNil))))) aNil) [some t, some (T.int (m : Nat)), some (.int (F : Nat)), none] h = .ok (.int ((wsum m F rs : Nat) : Int)) h := by
    refine (call_ok (b := fSum) (cons_ok (eL_ok z) (rfl : aNil _ h = .ok [] h))).trans ?_
    simp only [fSum, fInts, TL.listOf, ints_of, sum_cast]
    rfl
  have P := (call_ok (b := m_power) (cons_ok (M none) (cons_ok (rfl : eVar 2 [some t, some (T.int (m : Nat)), some (.int (F : Nat)), none] h = .ok (.int (F : Nat)) h) (rfl : aNil _ h = .ok [] h)))).trans (power_ok (b := m + 1) (n := F) (by omega) (by omega) h)
  refine defM_rt rfl (ret_ok ?_)
  show eTup _ [some t, some (T.int (m : Nat)), some (.int (F : Nat)), none] h = _
  unfold eTup
  rw [cons_ok S (cons_ok P (rfl : aNil _ h = .ok [] h))]
  rfl
end BD
namespace BD
open PySem L2 TL K13
theorem pow_fit {m F : Nat} (hm : m ≤ 9) (hF : F ≤ 30) : 0 < (m + 1) ^ F ∧ (m + 1) ^ F < 2 ^ 400 := by
  refine ⟨Nat.pow_pos (by omega), ?_⟩
  have h1 : (m + 1) ^ F ≤ 16 ^ F := Nat.pow_le_pow_left (by omega) F
  have h2 : 16 ^ F ≤ 16 ^ 30 := Nat.pow_le_pow_right (by omega) hF
  have h3 : (16 : Nat) ^ 30 = 2 ^ (4 * 30) := by rw [Nat.pow_mul]
  have h4 : (2 : Nat) ^ (4 * 30) < 2 ^ 400 := Nat.pow_lt_pow_right (by omega) (by omega)
  omega
def wT (m F : Nat) (rs : List (List Nat)) : T := .tup [.int ((wsum m F rs / Nat.gcd (wsum m F rs) ((m + 1) ^ F) : Nat) : Int), .int (((m + 1) ^ F / Nat.gcd (wsum m F rs) ((m + 1) ^ F) : Nat) : Int)]
section
variable {size : Nat} {rows : List (List Nat)} {mine its : List Nat}
theorem free_len (R : Rows size rows) : (freeL size mine its).length ≤ 30 := by
  have h1 : (freeL size mine its).length ≤ (List.range size).length := List.length_filter_le _ _
  rw [List.length_range] at h1
  have := R.s1
  omega
theorem rests_len (R : Rows size rows) : (restsL rows mine its).length ≤ 30 := by
  unfold restsL
  rw [List.length_map]
  have h1 : (rows.filter (liveB its)).length ≤ rows.length := List.length_filter_le _ _
  have := R.len
  omega
theorem pLen (R : Rows size rows) {f : ME} {τ : TS_} {h : VH} (e : f τ h = .ok (standT size rows mine its) h) : eCall fLen (aCons (eProp 1 m_Stand_free f) aNil) τ h = .ok (.int ((freeL size mine its).length : Nat)) h := by
  have := hLenT (ts := (freeL size mine its).map fun c => T.int (c : Nat)) (pFree (by have := R.s1; omega) e)
  rw [List.length_map] at this
  exact this
theorem weight_ok (R : Rows size rows) {m : Nat} (m1 : 1 ≤ m) (m9 : m ≤ 9) (h : VH) : m_weight [standT size rows mine its, .int (m : Nat)] h = .ok (wT m (freeL size mine its).length (restsL rows mine its)) h := by
  have fl := free_len (mine := mine) (its := its) R
  obtain ⟨p1, p2⟩ := pow_fit (m := m) m9 fl
  obtain ⟨τ, hτ⟩ : ∃ τ, τ = startT 2 [standT size rows mine its, .int (m : Nat)] := ⟨_, rfl⟩
  have v0 : eVar 0 τ h = .ok (standT size rows mine its) h := by rw [hτ]; rfl
  have v1 : eVar 1 τ h = .ok (.int (m : Nat)) h := by rw [hτ]; rfl
  have nil : aNil τ h = .ok [] h := rfl
  have A := (call_ok (b := m_weight_of) (cons_ok (pRests R v0) (cons_ok v1 (cons_ok (pLen R v0) nil)))).trans (weight_of_ok (t := restsT (restsL rows mine its)) (rs := restsL rows mine its) rfl m9 (by omega) (by have := rests_len (mine := mine) (its := its) R; omega) (fun r hr => rest_le R hr))
  have B := (call_ok (b := m_reduced) (cons_ok A nil)).trans (reduced_ok p1 p2 h)
  refine defM_rt rfl ?_
  rw [← hτ]
  exact (seq_nx (expr_ok ((call_ok (b := m_check_stand) (cons_ok v0 nil)).trans (chk_stand h)))).trans ((seq_nx (expr_ok ((call_ok (b := m_check_many) (cons_ok v1 nil)).trans (chk_many m1 m9 h)))).trans (ret_ok B))
end
end BD
namespace BD
structure Frac (X Y u l : Nat) : Prop where
  eq : u * Y = X * l
  cop : Nat.gcd u l = 1
  pos : 0 < l
theorem Frac.uniq {X Y u l : Nat} (f : Frac X Y u l) (hY : 0 < Y) : u = X / Nat.gcd X Y ∧ l = Y / Nat.gcd X Y := by
  have gp : 0 < Nat.gcd X Y := Nat.gcd_pos_of_pos_right _ hY
  obtain ⟨x, hx⟩ := Nat.gcd_dvd_left X Y
  obtain ⟨y, hy⟩ := Nat.gcd_dvd_right X Y
  have cx : X / Nat.gcd X Y = x := by
    have : X / Nat.gcd X Y = Nat.gcd X Y * x / Nat.gcd X Y := congrArg (· / Nat.gcd X Y) hx
    rw [this, Nat.mul_div_cancel_left _ gp]
  have cy : Y / Nat.gcd X Y = y := by
    have : Y / Nat.gcd X Y = Nat.gcd X Y * y / Nat.gcd X Y := congrArg (· / Nat.gcd X Y) hy
    rw [this, Nat.mul_div_cancel_left _ gp]
  have co : Nat.gcd x y = 1 := by
    have := Nat.coprime_div_gcd_div_gcd gp
    rw [cx, cy] at this
    exact this
  have e : u * y = x * l := by
    have h := f.eq
    generalize Nat.gcd X Y = g at hx hy gp
    rw [hx, hy] at h
    have h2 : g * (u * y) = g * (x * l) := by
      rw [Nat.mul_left_comm, h, Nat.mul_assoc]
    exact Nat.eq_of_mul_eq_mul_left gp h2
  have d1 : l ∣ y := Nat.Coprime.dvd_of_dvd_mul_left (m := u) (show Nat.Coprime l u from (Nat.gcd_comm l u).trans f.cop) ⟨x, by rw [e, Nat.mul_comm]⟩
  have d2 : y ∣ l := Nat.Coprime.dvd_of_dvd_mul_left (m := x) (show Nat.Coprime y x from (Nat.gcd_comm y x).trans co) ⟨u, by rw [← e, Nat.mul_comm]⟩
  have ly := Nat.dvd_antisymm d1 d2
  rw [cx, cy]
  refine ⟨?_, ly⟩
  rw [← ly] at e
  exact Nat.eq_of_mul_eq_mul_right f.pos e
theorem Frac.begin {Y : Nat} : Frac 0 Y 0 1 := ⟨by simp, rfl, by omega⟩
theorem Frac.step {X Y u l p q : Nat} (f : Frac X Y u l) (hp : 0 < p) (hq : q * p = Y) : Frac (X + q) Y ((u * p + l) / Nat.gcd (u * p + l) (l * p)) (l * p / Nat.gcd (u * p + l) (l * p)) := by
  have Lp : 0 < l * p := Nat.mul_pos f.pos hp
  have gp : 0 < Nat.gcd (u * p + l) (l * p) := Nat.gcd_pos_of_pos_right _ Lp
  have whole : (u * p + l) * Y = (X + q) * (l * p) := by
    have h := f.eq
    have a : u * p * Y = X * (l * p) := by rw [Nat.mul_right_comm, h, Nat.mul_assoc]
    have b : l * Y = q * (l * p) := by rw [← hq, Nat.mul_left_comm]
    rw [Nat.add_mul, Nat.add_mul, a, b]
  refine ⟨?_, Nat.coprime_div_gcd_div_gcd gp, Nat.div_pos (Nat.gcd_le_right _ Lp) gp⟩
  obtain ⟨U, hU⟩ := Nat.gcd_dvd_left (u * p + l) (l * p)
  obtain ⟨L, hL⟩ := Nat.gcd_dvd_right (u * p + l) (l * p)
  have cU : (u * p + l) / Nat.gcd (u * p + l) (l * p) = U := by
    have : (u * p + l) / Nat.gcd (u * p + l) (l * p) = Nat.gcd (u * p + l) (l * p) * U / Nat.gcd (u * p + l) (l * p) := congrArg (· / Nat.gcd (u * p + l) (l * p)) hU
    rw [this, Nat.mul_div_cancel_left _ gp]
  have cL : l * p / Nat.gcd (u * p + l) (l * p) = L := by
    have : l * p / Nat.gcd (u * p + l) (l * p) = Nat.gcd (u * p + l) (l * p) * L / Nat.gcd (u * p + l) (l * p) := congrArg (· / Nat.gcd (u * p + l) (l * p)) hL
    rw [this, Nat.mul_div_cancel_left _ gp]
  rw [cU, cL]
  generalize Nat.gcd (u * p + l) (l * p) = g at hU hL gp
  rw [hU, hL] at whole
  have h2 : g * (U * Y) = g * ((X + q) * L) := by
    rw [← Nat.mul_assoc, whole, Nat.mul_left_comm]
  exact Nat.eq_of_mul_eq_mul_left gp h2
end BD
namespace BD
open PySem L2 TL K13
end BD
namespace BD
open PySem L2 TL K13
theorem wsum_take {m F : Nat} {rs : List (List Nat)} {i : Nat} (hi : i < rs.length) : wsum m F (rs.take (i + 1)) = wsum m F (rs.take i) + (m + 1) ^ (F - rs[i].length) := by
  unfold wsum
  rw [List.take_succ_eq_append_getElem hi, List.map_append, List.sum_append]
  simp
end BD
namespace BD
open PySem L2 TL K13
theorem Frac.lt {X Y u l k : Nat} (f : Frac X Y u l) (hY : 0 < Y) : u * k < l ↔ X * k < Y := by
  have e : u * k * Y = X * k * l := by rw [Nat.mul_right_comm, f.eq, Nat.mul_right_comm]
  constructor
  · intro h
    apply Decidable.byContradiction
    intro n
    have h1 : u * k * Y < l * Y := Nat.mul_lt_mul_of_pos_right h hY
    have h2 : Y * l ≤ X * k * l := Nat.mul_le_mul_right l (by omega)
    rw [Nat.mul_comm l Y] at h1
    omega
  · intro h
    apply Decidable.byContradiction
    intro n
    have h1 : X * k * l < Y * l := Nat.mul_lt_mul_of_pos_right h f.pos
    have h2 : l * Y ≤ u * k * Y := Nat.mul_le_mul_right Y (by omega)
    rw [Nat.mul_comm l Y] at h2
    omega
end BD
namespace BD
open PySem L2 TL K13
theorem app_assoc (a b c : Str) : a ++ b ++ c = a ++ (b ++ c) := ext_tl (by rw [tl_append, tl_append, tl_append, tl_append, List.append_assoc])
theorem board_eq (size : Nat) (rows : List (List Nat)) : boardS size rows = numS size ++ ((":" : String) : Str) ++ tailS rows := by
  unfold boardS
  rw [join_eq]
  rfl
theorem hJoin {ys : List Str} {a : Str} {f g : ME} {τ : TS_} {h : VH} (e : f τ h = .ok (.str a) h) (e2 : g τ h = .ok (.lst (ys.map T.str)) h) (hb : (ys.map (·.length)).sum + ys.length * a.length ≤ 1000000) : eMt "str" mJoin f (aCons g aNil) τ h = .ok (.str (Txt.join a ys)) h := by
  have tt : tyT h "str" (.str a) = true := by unfold tyT; rfl
  have s : seqOf h (.lst (ys.map T.str)) = some (ys.map T.str) := rfl
  unfold eMt
  simp only [e, tt, if_true, cons_ok e2 (rfl : aNil τ h = .ok [] h), mJoin, s, strsOf_map, hb]
end BD
namespace BD
open PySem L2 TL
def srt (l : List Nat) : List Nat := l.mergeSort fun a b => decide (a ≤ b)
theorem srt_mem {c : Nat} {l : List Nat} : c ∈ srt l ↔ c ∈ l := List.mem_mergeSort
theorem srt_asc {l : List Nat} (nd : l.Nodup) : (srt l).Pairwise (· < ·) := by
  have pw := List.pairwise_mergeSort (le := fun a b : Nat => decide (a ≤ b)) (fun a b c h1 h2 => by simp only [decide_eq_true_eq] at *; omega) (fun a b => by simp only [Bool.or_eq_true, decide_eq_true_eq]; omega) l
  have nd2 : (srt l).Nodup := (List.mergeSort_perm _ _).nodup_iff.mpr nd
  refine (List.Pairwise.and nd2 pw).imp fun {a b} h => ?_
  have h1 := h.1
  have h2 := of_decide_eq_true h.2
  omega
theorem sort_gen {α : Type} (l : List α) (f : α → T) (g : α → PyData) (le : α → α → Bool) (h : ∀ a b, (!W.dataLt (g b) (g a)) = le a b) : sortT (l.map f) (l.map g) = (l.mergeSort le).map f := by
  unfold sortT
  rw [List.zip_map', ← List.map_mergeSort (r := le) (fun a _ b _ => (h a b).symm), List.map_map]
  rfl
theorem sorted_ints {t : T} {l : List Nat} {h : VH} (ht : TL.listOf h t = some (l.map fun c => T.int (c : Nat))) : fSorted [t] h = .ok ((srt l).map fun c => .int (c : Nat)) h := by
  have e1 : (l.map fun c : Nat => T.int (c : Nat)).mapM (T.dat h 10) = some (l.map fun c : Nat => PyData.int (c : Nat)) := by
    rw [List.mapM_map]
    exact mapM_some fun c _ => dat_int
  have ok : sortOk (l.map fun c : Nat => PyData.int (c : Nat)) = true := by
    unfold sortOk
    rw [Bool.and_eq_true, Bool.or_eq_true]
    refine ⟨List.all_eq_true.mpr fun d hd => List.all_eq_true.mpr fun e he => ?_, .inr (List.all_eq_true.mpr fun d hd => ?_)⟩
    · obtain ⟨a, _, rfl⟩ := List.mem_map.mp hd
      obtain ⟨b, _, rfl⟩ := List.mem_map.mp he
      rfl
    · obtain ⟨a, _, rfl⟩ := List.mem_map.mp hd
      rfl
  unfold fSorted
  simp only [ht, e1, ok, if_true]
  rw [sort_gen l (fun c : Nat => T.int (c : Nat)) (fun c : Nat => PyData.int (c : Nat)) (fun a b => decide (a ≤ b)) (fun a b => by
    rw [W.dataLt_int]
    by_cases q : a ≤ b
    · rw [decide_eq_true q, decide_eq_false (by omega)]; rfl
    · rw [decide_eq_false q, decide_eq_true (by omega)]; rfl)]
  rfl
abbrev lnD (r : List Nat) : PyData := .tuple (r.map fun c => .int (c : Nat))
def rowLe (a b : List Nat) : Bool := !W.dataLt (lnD b) (lnD a)
def srtR (rs : List (List Nat)) : List (List Nat) := rs.mergeSort rowLe
theorem rowLt_eq (a b : List Nat) : W.dataLt (lnD a) (lnD b) = decide ((a.map fun c : Nat => (c : Int)) < b.map fun c : Nat => (c : Int)) := by
  have e : ∀ l : List Nat, (l.map fun c : Nat => PyData.int (c : Nat)) = (l.map fun c : Nat => (c : Int)).map PyData.int := fun l => by rw [List.map_map]; rfl
  unfold lnD
  rw [W.dataLt_tuple, e, e]
  exact W.dataLt_ints _ _
theorem rowLe_iff {a b : List Nat} : rowLe a b = true ↔ (a.map fun c : Nat => (c : Int)) ≤ b.map fun c : Nat => (c : Int) := by
  unfold rowLe
  rw [rowLt_eq, Bool.not_eq_true', decide_eq_false_iff_not]
  exact List.not_lt
theorem cast_inj {a b : List Nat} (h : (a.map fun c : Nat => (c : Int)) = b.map fun c : Nat => (c : Int)) : a = b := by
  induction a generalizing b with
  | nil => cases b with
    | nil => rfl
    | cons _ _ => cases h
  | cons x a ih => cases b with
    | nil => cases h
    | cons y b =>
      simp only [List.map_cons, List.cons.injEq] at h
      rw [ih h.2, show x = y by omega]
theorem srtR_asc {rs : List (List Nat)} (nd : rs.Nodup) : (srtR rs).Pairwise fun a b => W.dataLt (lnD a) (lnD b) = true := by
  have pw := List.pairwise_mergeSort (le := rowLe) (fun a b c h1 h2 => rowLe_iff.mpr (List.le_trans (rowLe_iff.mp h1) (rowLe_iff.mp h2))) (fun a b => by
    rw [Bool.or_eq_true, rowLe_iff, rowLe_iff]
    exact List.le_total _ _) rs
  have nd2 : (srtR rs).Nodup := (List.mergeSort_perm _ _).nodup_iff.mpr nd
  refine (List.Pairwise.and nd2 pw).imp fun {a b} h => ?_
  rw [rowLt_eq]
  refine decide_eq_true (Decidable.byContradiction fun n => h.1 ?_)
  exact cast_inj (List.le_antisymm (rowLe_iff.mp h.2) (List.not_lt.mp n))
theorem srtR_mem {r : List Nat} {rs : List (List Nat)} : r ∈ srtR rs ↔ r ∈ rs := List.mem_mergeSort
theorem srtR_len (rs : List (List Nat)) : (srtR rs).length = rs.length := List.length_mergeSort _
end BD
namespace BD
open PySem L2 TL K13
end BD
namespace BD
open PySem L2 TL K13
end BD
namespace BD
open PySem L2 TL K13
theorem Frac.of {X Y : Nat} (hY : 0 < Y) : Frac X Y (X / Nat.gcd X Y) (Y / Nat.gcd X Y) := by
  have gp : 0 < Nat.gcd X Y := Nat.gcd_pos_of_pos_right _ hY
  refine ⟨?_, Nat.coprime_div_gcd_div_gcd gp, Nat.div_pos (Nat.gcd_le_right _ hY) gp⟩
  have e1 := Nat.div_mul_cancel (Nat.gcd_dvd_left X Y)
  have e2 := Nat.div_mul_cancel (Nat.gcd_dvd_right X Y)
  generalize X / Nat.gcd X Y = x at *
  generalize Y / Nat.gcd X Y = y at *
  generalize Nat.gcd X Y = g at *
  rw [← e1, ← e2, Nat.mul_assoc, Nat.mul_comm g y]
theorem filt_ok {α : Type} (enc : α → T) (l : List α) (p : α → Bool) {f : ME} {c : MB} {j : Nat} {τ : TS_} {h : VH} (hf : iSeqC f τ h = .ok (fun h => seqS h (.lst (l.map enc))) h) (hl : l.length ≤ 16777216) (hc : ∀ a ∈ l, c ((wipeT τ [j]).set j (some (enc a))) h = .ok (p a) h) (hj : ∀ t, eVar j ((wipeT τ [j]).set j (some t)) h = .ok t h) :
    eL (mLc (iSeqC f) [j] (mgName j) c (eVar j)) τ h = .ok (.lst ((l.filter p).map enc)) h := by
  have z := mLc_pure (mi := iSeqC f) (ws := [j]) (g := mgName j) (c := c) (e := eVar j) (τ := τ) (h := h) (ts := l.map enc) hf rfl (by rw [List.length_map]; exact hl)
    (fun t => match c ((wipeT τ [j]).set j (some t)) h with | .ok b _ => b | _ => false) (fun t => t) (fun t ht => by
      obtain ⟨a, ha, rfl⟩ := List.mem_map.mp ht
      refine ⟨_, rfl, ?_, fun _ => hj _⟩
      have e := hc a ha
      show _ = Res.ok (match c ((wipeT τ [j]).set j (some (enc a))) h with | .ok b _ => b | _ => false) h
      rw [e])
  have e : ((l.map enc).filter fun t => match c ((wipeT τ [j]).set j (some t)) h with | .ok b _ => b | _ => false).map (fun t => t) = (l.filter p).map enc := by
    rw [List.map_id', List.filter_map]
    refine congrArg (List.map _) (List.filter_congr fun a ha => ?_)
    show (match c ((wipeT τ [j]).set j (some (enc a))) h with | .ok b _ => b | _ => false) = _
    rw [hc a ha]
  rw [e] at z
  exact eL_ok z
abbrev nI (c : Nat) : T := .int (c : Nat)
structure Lots (rs : List (List Nat)) (left : List Nat) : Prop where
  asc : left.Pairwise (· < ·)
  few : left.length ≤ 30
  row : ∀ r ∈ rs, r.Pairwise (· < ·) ∧ ∀ c ∈ r, c ∈ left
  sh : ∀ r ∈ rs, r.length ≤ 12
  cnt : rs.length ≤ 1000
theorem Lots.le {rs : List (List Nat)} {left : List Nat} (L : Lots rs left) {r : List Nat} (hr : r ∈ rs) : r.length ≤ left.length := asc_sub L.asc (L.row r hr).1 (L.row r hr).2
end BD
namespace BD
open PySem L2 TL K13
def pur (a b : Int) : VO := .lst [.int a, .int b]
def IsP (o : VO) : Prop := ∃ a b, o = pur a b ∧ 0 ≤ b ∧ b < 2147483647
def Flat (h : VH) : Prop := ∀ o ∈ h, ∀ m, VO.lowR m o = true
structure Iv (n : Nat) (h : VH) : Prop where
  bg : ∃ o, h[n]? = some o ∧ IsP o
  fl : Flat h
theorem Iv.lt {n : Nat} {h : VH} (I : Iv n h) : n < h.length := let ⟨_, e, _⟩ := I.bg; (List.getElem?_eq_some_iff.mp e).1
theorem Flat.low {h : VH} (f : Flat h) (m : Nat) : h.all (VO.lowR m) = true := List.all_eq_true.mpr fun o ho => f o ho m
theorem Flat.set {h : VH} (f : Flat h) {n : Nat} {o : VO} (ho : ∀ m, VO.lowR m o = true) : Flat (h.set n o) := fun p hp m => by
  rcases List.mem_or_eq_of_mem_set hp with z | rfl
  · exact f p z m
  · exact ho m
theorem Flat.app {h : VH} (f : Flat h) {o : VO} (ho : ∀ m, VO.lowR m o = true) : Flat (h ++ [o]) := fun p hp m => by
  rcases List.mem_append.mp hp with z | z
  · exact f p z m
  · rw [List.mem_singleton.mp z]; exact ho m
theorem IsP.low {o : VO} (i : IsP o) (m : Nat) : VO.lowR m o = true := by
  obtain ⟨a, b, rfl, _⟩ := i
  rfl
theorem Iv.draw {n : Nat} {h : VH} (I : Iv n h) {o : VO} (i : IsP o) : Iv n (h.set n o) := ⟨⟨o, List.getElem?_set_self I.lt, i⟩, I.fl.set i.low⟩
theorem Iv.app {n : Nat} {h : VH} (I : Iv n h) {o : VO} (ho : ∀ m, VO.lowR m o = true) : Iv n (h ++ [o]) := by
  obtain ⟨p, e, i⟩ := I.bg
  exact ⟨⟨p, by rw [List.getElem?_append_left I.lt]; exact e, i⟩, I.fl.app ho⟩
theorem Iv.put {n q : Nat} {h : VH} (I : Iv n h) (ne : q ≠ n) {o : VO} (ho : ∀ m, VO.lowR m o = true) : Iv n (h.set q o) := by
  obtain ⟨p, e, i⟩ := I.bg
  exact ⟨⟨p, by rw [List.getElem?_set_ne ne]; exact e, i⟩, I.fl.set ho⟩
theorem lcL_inv {rd : VH → Option (List T)} {g : MG} {e : ME} {τ : TS_} {ts : List T} (hrd : ∀ h, rd h = some ts) (I : Nat → List T → VH → Prop) (hb : ∀ i (hi : i < ts.length) acc h, I i acc h → ∃ τ1 y h', g ts[i] τ h = .ok τ1 h ∧ e τ1 h = .ok y h' ∧ I (i + 1) (acc ++ [y]) h') :
    ∀ (k i : Nat) (acc : List T) (h : VH), i + k = ts.length → I i acc h → ∃ acc' h', lcL rd g bYes e τ ts.length k i acc h = .ok acc' h' ∧ I ts.length acc' h' := by
  intro k
  induction k with
  | zero =>
    intro i acc h hi Ih
    obtain rfl : i = ts.length := by omega
    exact ⟨acc, h, by simp [lcL, hrd], Ih⟩
  | succ k ih =>
    intro i acc h hi Ih
    have hlt : i < ts.length := by omega
    have e1 : ts[i]? = some ts[i] := List.getElem?_eq_getElem hlt
    obtain ⟨τ1, y, h2, a1, a2, I2⟩ := hb i hlt acc h Ih
    obtain ⟨acc', h3, z, I3⟩ := ih (i + 1) (acc ++ [y]) h2 (by omega) I2
    refine ⟨acc', h3, ?_, I3⟩
    have b : bYes τ1 h = .ok true h := rfl
    simp only [lcL, hrd, e1, a1, b, a2, if_true]
    exact z
theorem mLc_inv {mi : MI} {ws : List Nat} {g : MG} {e : ME} {τ : TS_} {h h1 : VH} {rd : VH → Option (List T)} {ts : List T} (hm : mi τ h = .ok rd h1) (hrd : ∀ h, rd h = some ts) (hl : ts.length ≤ 16777216) (I : Nat → List T → VH → Prop) (h0 : I 0 [] h1)
    (hb : ∀ i (hi : i < ts.length) acc h, I i acc h → ∃ τ1 y h', g ts[i] (wipeT τ ws) h = .ok τ1 h ∧ e τ1 h = .ok y h' ∧ I (i + 1) (acc ++ [y]) h') : ∃ acc h', mLc mi ws g bYes e τ h = .ok acc h' ∧ I ts.length acc h' := by
  obtain ⟨acc, h', z, J⟩ := lcL_inv (g := g) (e := e) (τ := wipeT τ ws) hrd I hb ts.length 0 [] h1 (by omega) h0
  exact ⟨acc, h', by simp [mLc, hm, hrd, hl, z], J⟩
theorem rngk {g : MA} {τ : TS_} {h h1 : VH} {K : Nat} (e : g τ h = .ok [.int (K : Nat)] h1) (hK : K ≤ 100000) : iRange1 g τ h = .ok (fun _ => some (rangeT 0 K)) h1 := by
  unfold iRange1
  rw [e]
  simp only
  rw [if_pos ⟨by omega, by omega⟩, Int.toNat_natCast]
theorem allT {α : Type} (l : List α) (h : VH) : fAll [.lst (l.map fun _ => T.bl true)] h = .ok (.bl true) h := by
  have := hAll l (fun _ => true) h
  rw [this, List.all_eq_true.mpr fun _ _ => rfl]
end BD
namespace BD
open PySem L2 TL K13
theorem erase_map {α β : Type} (f : α → β) : ∀ (l : List α) (i : Nat), (l.map f).eraseIdx i = (l.eraseIdx i).map f
  | [], _ => rfl
  | _ :: _, 0 => rfl
  | a :: l, i + 1 => by
    show f a :: (l.map f).eraseIdx i = f a :: (l.eraseIdx i).map f
    rw [erase_map f l i]
theorem erase_perm {α : Type} : ∀ (l : List α) (i : Nat) (hi : i < l.length), (l[i] :: l.eraseIdx i).Perm l
  | [], _, h => by cases h
  | _ :: _, 0, _ => List.Perm.refl _
  | a :: l, i + 1, h => (List.Perm.swap a (l[i]'(Nat.lt_of_succ_lt_succ h)) (l.eraseIdx i)).trans ((erase_perm l i (Nat.lt_of_succ_lt_succ h)).cons a)
def Same (n : Nat) (h h' : VH) : Prop := h.length ≤ h'.length ∧ ∀ x, x < h.length → x ≠ n → h'[x]? = h[x]?
theorem Same.refl {n : Nat} {h : VH} : Same n h h := ⟨Nat.le_refl _, fun _ _ _ => rfl⟩
theorem Same.trans {n : Nat} {h h1 h2 : VH} (a : Same n h h1) (b : Same n h1 h2) : Same n h h2 :=
  ⟨Nat.le_trans a.1 b.1, fun x hx ne => (b.2 x (Nat.lt_of_lt_of_le hx a.1) ne).trans (a.2 x hx ne)⟩
theorem Same.draw {n : Nat} {h : VH} {o : VO} : Same n h (h.set n o) := ⟨by rw [List.length_set]; exact Nat.le_refl _, fun x _ ne => List.getElem?_set_ne (Ne.symm ne)⟩
theorem Same.app {n : Nat} {h r : VH} : Same n h (h ++ r) := ⟨by rw [List.length_append]; omega, fun x hx _ => List.getElem?_append_left hx⟩
theorem Same.put {n q : Nat} {h0 h : VH} (s : Same n h0 h) (hq : h0.length ≤ q) {o : VO} : Same n h0 (h.set q o) := ⟨by rw [List.length_set]; exact s.1, fun x hx ne => (List.getElem?_set_ne (by omega)).trans (s.2 x hx ne)⟩
theorem nI_low (l : List Nat) (m : Nat) : VO.lowR m (.lst (l.map nI)) = true := ints_low l m
theorem lenR {q : Nat} {h : VH} {ts : List T} {f : ME} {τ : TS_} (e : f τ h = .ok (.ref q) h) (hq : h[q]? = some (.lst ts)) : eCall fLen (aCons f aNil) τ h = .ok (.int (ts.length : Nat)) h := by
  refine (call_ok (b := fLen) (cons_ok e rfl)).trans ?_
  simp [fLen, TL.seqOf, TL.listOf, hq]
theorem lines_dat (rs : List (List Nat)) (h : VH) (k : Nat) : (rs.map lineT).mapM (T.dat h (k + 1)) = some (rs.map lnD) := by
  rw [List.mapM_map]
  exact mapM_some fun r _ => line_dat r h k
theorem app_ok {p : Nat} {h : VH} {ts : List T} {t : T} {f g : ME} {τ : TS_} (hp : h[p]? = some (.lst ts)) (hl : ts.length < 16777216) (e : f τ h = .ok (.ref p) h) (e2 : g τ h = .ok t h) : sExpr (eMt "list" mAppend f (aCons g aNil)) τ h = .nx τ (h.set p (.lst (ts ++ [t]))) := by
  have tt : tyT h "list" (.ref p) = true := by simp [tyT, hp]
  refine expr_ok (t := .non) ?_
  unfold eMt
  simp only [e, tt, if_true, cons_ok e2 (rfl : aNil τ h = .ok [] h), mAppend, hp, if_pos hl]
end BD
namespace BD
open PySem L2 TL K13
theorem range_nI (K : Nat) : rangeT 0 K = (List.range K).map nI := by
  unfold rangeT
  refine List.map_congr_left fun i _ => ?_
  show T.int (0 + (i : Int)) = T.int (i : Nat)
  rw [Int.zero_add]
end BD
namespace BD
open PySem L2 TL K13
abbrev nZ (r : List Nat) : List Int := r.map fun c : Nat => (c : Int)
theorem tupLine {f : ME} {τ : TS_} {h : VH} {l : List Nat} (e : f τ h = .ok (.lst (l.map nI)) h) : eCall fTuple (aCons f aNil) τ h = .ok (lineT l) h := (call_ok (b := fTuple) (cons_ok e rfl)).trans rfl
end BD
namespace BD
open PySem L2 TL K13
end BD
namespace BD
open PySem L2 TL K13
theorem app2_ok {p : Nat} {h h2 : VH} {ts : List T} {t : T} {xs0 : List T} {f g : ME} {τ : TS_} (hp0 : h[p]? = some (.lst xs0)) (hp : h2[p]? = some (.lst ts)) (hl : ts.length < 16777216) (e : f τ h = .ok (.ref p) h) (e2 : g τ h = .ok t h2) : sExpr (eMt "list" mAppend f (aCons g aNil)) τ h = .nx τ (h2.set p (.lst (ts ++ [t]))) := by
  have tt : tyT h "list" (.ref p) = true := by simp [tyT, hp0]
  refine expr_ok (t := .non) ?_
  unfold eMt
  simp only [e, tt, if_true, cons_ok e2 (rfl : aNil τ h2 = .ok [] h2), mAppend, hp, if_pos hl]
end BD
namespace BD
open PySem L2 TL K13
def prs (mine its : List Nat) : Nat → List (List Nat) → List (Nat × List Nat)
  | _, [] => []
  | k, l :: ls => if liveB its l = true then (k, restL mine l) :: prs mine its (k + 1) ls else prs mine its (k + 1) ls
theorem prs_snoc (mine its : List Nat) (l : List Nat) : ∀ (ls : List (List Nat)) (k : Nat), prs mine its k (ls ++ [l]) = prs mine its k ls ++ (if liveB its l = true then [(k + ls.length, restL mine l)] else [])
  | [], k => by
    show prs mine its k [l] = _
    unfold prs
    split <;> rfl
  | x :: ls, k => by
    have ih := prs_snoc mine its l ls (k + 1)
    rw [List.cons_append]
    unfold prs
    rw [ih, List.length_cons, show k + 1 + ls.length = k + (ls.length + 1) by omega]
    split <;> rfl
theorem prs_snd (mine its : List Nat) : ∀ (ls : List (List Nat)) (k : Nat), (prs mine its k ls).map Prod.snd = restsL ls mine its
  | [], _ => rfl
  | l :: ls, k => by
    have ih := prs_snd mine its ls (k + 1)
    unfold prs restsL
    rw [List.filter_cons]
    unfold restsL at ih
    split
    · rw [List.map_cons, List.map_cons, ih]
    · exact ih
abbrev prT (p : Nat × List Nat) : T := .tup [nI p.1, lineT p.2]
theorem eq_nilI (l : List Nat) (h : VH) : TL.bEq (.lst (l.map nI)) (.lst []) h = .ok (.bl l.isEmpty) h := by
  have e1 : T.dat h 10 (.lst (l.map nI)) = some (.list (l.map fun c : Nat => PyData.int (c : Nat))) := by
    rw [dat_lst, List.mapM_map]
    have := mapM_some (f := fun c : Nat => T.dat h 9 (nI c)) (g := fun c : Nat => PyData.int (c : Nat)) (l := l) fun c _ => dat_int
    rw [show ((T.dat h 9) ∘ nI) = fun c : Nat => T.dat h 9 (nI c) from rfl, this]
    rfl
  have e2 : T.dat h 10 (.lst []) = some (.list []) := rfl
  unfold TL.bEq bEqG
  rw [e1, e2]
  cases l <;> simp [PyData.eqv, PyData.eqvAll]
end BD
namespace BD
open PySem L2 TL K13 K06
end BD
namespace BD
open PySem L2 TL K13 K06
end BD
namespace BD
open PySem L2 TL K13 K06
theorem text_show {x : Str} (h : ∀ c ∈ tl x, c < 128) : wide (.str x) ≤ 10 * x.length + 2 := by
  show (reprText x).length ≤ _
  exact StrLaws.reprText_len x fun c hc => by
    have := h c hc
    have : (128 : Nat) < 16 ^ 8 := by decide
    omega
theorem prs_lt (mine its : List Nat) : ∀ (ls : List (List Nat)) (k : Nat), ∀ p ∈ prs mine its k ls, p.1 < k + ls.length
  | [], _, p, h => by cases h
  | l :: ls, k, p, h => by
    have ih := prs_lt mine its ls (k + 1) p
    unfold prs at h
    rw [List.length_cons]
    split at h
    · rcases List.mem_cons.mp h with rfl | h
      · simp
      · have := ih h
        omega
    · have := ih h
      omega
theorem rgf_ok (p : Nat → Bool) {g : MA} {c : MB} {j K : Nat} {τ : TS_} {h : VH} (hm : iRange1 g τ h = .ok (fun _ => some (rangeT 0 K)) h) (hK : K ≤ 100000) (hc : ∀ i, i < K → c ((wipeT τ [j]).set j (some (nI i))) h = .ok (p i) h) (hj : ∀ t, eVar j ((wipeT τ [j]).set j (some t)) h = .ok t h) :
    eL (mLc (iRange1 g) [j] (mgName j) c (eVar j)) τ h = .ok (.lst (((List.range K).filter p).map nI)) h := by
  have z := mLc_pure (mi := iRange1 g) (ws := [j]) (g := mgName j) (c := c) (e := eVar j) (τ := τ) (h := h) (ts := rangeT 0 K) hm rfl (by rw [range_len]; omega) (fun t => match t with | .int i => p i.toNat | _ => false) (fun t => t) (fun t ht => by
    obtain ⟨i, hi, rfl⟩ := List.getElem_of_mem ht
    obtain ⟨hi2, ei⟩ := range_at hi
    rw [ei, Int.zero_add]
    exact ⟨_, rfl, hc i hi2, fun _ => hj _⟩)
  rw [range_nI, List.map_id', List.filter_map] at z
  exact eL_ok z
end BD
namespace BD
open PySem L2 TL K13 K06
end BD
namespace BG
open PySem L2 TL K58
theorem cm_l {i j : Int} (h : -1000000000000 < i) (h2 : i < 1000000000000) : cMul i j = true := by
  unfold cMul
  rw [Bool.or_eq_true, Bool.and_eq_true, Bool.and_eq_true]
  exact .inl ⟨decide_eq_true (by omega), decide_eq_true (by omega)⟩
theorem cm_r {i j : Int} (h : -1000000000000 < j) (h2 : j < 1000000000000) : cMul i j = true := by
  unfold cMul
  rw [Bool.or_eq_true, Bool.and_eq_true, Bool.and_eq_true]
  exact .inr ⟨decide_eq_true (by omega), decide_eq_true (by omega)⟩
def bag (a b c : Int) : VO := .lst [.int a, .int b, .int c]
def IsB (o : VO) : Prop := ∃ a b c, o = bag a b c ∧ 0 ≤ a ∧ a < 2147483587
def Flat (h : VH) : Prop := ∀ o ∈ h, ∀ m, VO.lowR m o = true
structure Iv (n : Nat) (h : VH) : Prop where
  bg : ∃ o, h[n]? = some o ∧ IsB o
  fl : Flat h
theorem Iv.lt {n : Nat} {h : VH} (I : Iv n h) : n < h.length := let ⟨_, e, _⟩ := I.bg; (List.getElem?_eq_some_iff.mp e).1
theorem Flat.low {h : VH} (f : Flat h) (m : Nat) : h.all (VO.lowR m) = true := List.all_eq_true.mpr fun o ho => f o ho m
theorem Flat.set {h : VH} (f : Flat h) {n : Nat} {o : VO} (ho : ∀ m, VO.lowR m o = true) : Flat (h.set n o) := fun p hp m => by
  rcases List.mem_or_eq_of_mem_set hp with z | rfl
  · exact f p z m
  · exact ho m
theorem Flat.app {h : VH} (f : Flat h) {o : VO} (ho : ∀ m, VO.lowR m o = true) : Flat (h ++ [o]) := fun p hp m => by
  rcases List.mem_append.mp hp with z | z
  · exact f p z m
  · rw [List.mem_singleton.mp z]; exact ho m
theorem IsB.low {o : VO} (i : IsB o) (m : Nat) : VO.lowR m o = true := by
  obtain ⟨a, b, c, rfl, _⟩ := i
  rfl
theorem Iv.set {n : Nat} {h : VH} (I : Iv n h) {o : VO} (i : IsB o) : Iv n (h.set n o) := ⟨⟨o, List.getElem?_set_self I.lt, i⟩, I.fl.set i.low⟩
theorem Iv.app {n : Nat} {h : VH} (I : Iv n h) {o : VO} (ho : ∀ m, VO.lowR m o = true) : Iv n (h ++ [o]) := by
  obtain ⟨p, e, i⟩ := I.bg
  exact ⟨⟨p, by rw [List.getElem?_append_left I.lt]; exact e, i⟩, I.fl.app ho⟩
theorem take_raw {n : Nat} {h : VH} {k : Int} (hp : ∃ o, h[n]? = some o ∧ IsB o) (hk : 0 < k) (hk2 : k < 1000000) : ∃ r o, m_law_take [.ref n, .int k] h = .ok (.int r) (h.set n o) ∧ 0 ≤ r ∧ r < k ∧ IsB o := by
  obtain ⟨o, e, a, b, c, rfl, ha, ha2⟩ := hp
  have hn : n < h.length := (List.getElem?_eq_some_iff.mp e).1
  unfold bag at e
  have hs : ∀ x : VO, (h.set n x)[n]? = some x := fun x => List.getElem?_set_self hn
  clear hn
  have m1 : cMul a 39373 = true := cm_r (by omega) (by omega)
  have m2 : cMul (a / 4093) (a / 4093) = true := cm_l (by omega) (by omega)
  have m3 : cMul 92821 (c + 1) = true := cm_l (by omega) (by omega)
  obtain ⟨s, hs2⟩ : ∃ s, s = (a * 39373 + a / 4093 * (a / 4093) + 92821 * (c + 1) + 5) % 2147483587 := ⟨_, rfl⟩
  have s0 : 0 ≤ s := by rw [hs2]; exact Int.emod_nonneg _ (by omega)
  have s1 : s < 2147483587 := by rw [hs2]; exact Int.emod_lt_of_pos _ (by omega)
  by_cases hb : 0 < b
  · refine ⟨b % k, bag s (b / k) (c + 1), ?_, Int.emod_nonneg _ (by omega), Int.emod_lt_of_pos _ hk, _, _, _, rfl, s0, s1⟩
    have hq : Builtin.divisionGoesByPylong b k = false := PyProof.noPylong_small (by omega)
    simp [m_law_take, s_law_take, defM, startT, sSeq, sSet, sRet, sIf, sExpr, sNil, sAsg, sPar, sPar3, eVar, eK, eOp, eCall, mCall, eL, eH, aLim, aNil, aCons, aStar, eTup, eIf, bTest, TL.bAnd, TL.bOr, TL.bNot, bYes, eAnd, eOr, eNot, eNeg, eChain, eFld, getI, mgName, mgTup, mgsCons, mgsNil, mgSub, bSub, bMod, bFdv, bPow, bI, bI0, bAdd, bMul, bLt, bLe, bGt, bGe, bOrdG, bIs, bIsn, bIsG, TL.isNon, bIx, bSetL, fLen, fList, fTuple, fMax2, fMin2, fII, fAbs, fInt, fDivmod, TL.listOf, seqOf, tupOf, atI, ixN, List.getElem?_cons_zero, List.getElem?_cons_succ, List.set_cons_zero, List.set_cons_succ, List.map, List.length_cons, List.length_nil, List.replicate, List.append_nil, List.cons_append, List.nil_append, Option.bind_some, Option.bind, e, hb, hk, hq, hs, bag, m1, m2, m3, ← hs2]
  · refine ⟨s / 512 % k, bag s b (c + 1), ?_, Int.emod_nonneg _ (by omega), Int.emod_lt_of_pos _ hk, _, _, _, rfl, s0, s1⟩
    simp [m_law_take, s_law_take, defM, startT, sSeq, sSet, sRet, sIf, sExpr, sNil, sAsg, sPar, sPar3, eVar, eK, eOp, eCall, mCall, eL, eH, aLim, aNil, aCons, aStar, eTup, eIf, bTest, TL.bAnd, TL.bOr, TL.bNot, bYes, eAnd, eOr, eNot, eNeg, eChain, eFld, getI, mgName, mgTup, mgsCons, mgsNil, mgSub, bSub, bMod, bFdv, bPow, bI, bI0, bAdd, bMul, bLt, bLe, bGt, bGe, bOrdG, bIs, bIsn, bIsG, TL.isNon, bIx, bSetL, fLen, fList, fTuple, fMax2, fMin2, fII, fAbs, fInt, fDivmod, TL.listOf, seqOf, tupOf, atI, ixN, List.getElem?_cons_zero, List.getElem?_cons_succ, List.set_cons_zero, List.set_cons_succ, List.map, List.length_cons, List.length_nil, List.replicate, List.append_nil, List.cons_append, List.nil_append, Option.bind_some, Option.bind, e, hb, hk, hs, bag, m1, m2, m3, ← hs2]
def bag1 : MS := (sSet 2 (eIf (bTest (eOp bLt (eVar 1) (eCall fLen (aCons (eVar 0) aNil)))) (eOp TL.bIx (eVar 0) (eVar 1)) (eOp TL.bAdd (eOp TL.bMul (eK (.int 6151)) (eVar 1)) (eK (.int 98317)))))
def bagI : MI := (iSeqC (eIf (bTest (eOp bGe (eVar 1) (eCall fLen (aCons (eVar 0) aNil)))) (eSl (eVar 0) oNo (oSome (eK (.int 3)))) (eL (aLim aNil))))
def bagB : MS := (sSet 2 (eOp TL.bMod (eCall fInt (aCons (eOp TL.bAdd (eOp TL.bMul (eVar 2) (eK (.int 37))) (eVar 3)) aNil)) (eK (.int 2147483587))))
def bagR : MS := (sRet (eH (aLim (aCons (eOp TL.bMod (eCall fInt (aCons (eVar 2) aNil)) (eK (.int 2147483587))) (aCons (eIf (TL.bOr (bTest (eOp bLt (eVar 2) (eK (.int 0)))) (bTest (eOp bGe (eVar 2) (eOp TL.bPow (eK (.int 10)) (eK (.int 18)))))) (eCall fAbs (aCons (eVar 2) aNil)) (eK (.int 0))) (aCons (eK (.int 0)) aNil))))))
theorem bag_eq : s_law_bag = sSeq bag1 (sSeq (sFor bagI (mgName 3) bagB) bagR) := rfl
theorem bag_ok {ns : List Int} {s : Nat} {h : VH} (hs : s < 100) (hf : Flat h) : ∃ h', m_law_bag [.arg (ns.map T.int), .int (s : Nat)] h = .ok (.ref h.length) h' ∧ Iv h.length h' := by
  have s1 : ∃ c : Int, bag1 [some (.arg (ns.map T.int)), some (.int (s : Nat)), none, none] h = .nx [some (.arg (ns.map T.int)), some (.int (s : Nat)), some (.int c), none] h := by
    by_cases q : s < ns.length
    · have ix : atI (ns.map T.int) ((s : Nat) : Int) = some (.int ns[s]) := by rw [ix_nn (by omega) (by rw [List.length_map]; omega), Int.toNat_natCast, List.getElem?_map, List.getElem?_eq_getElem q]; rfl
      exact ⟨ns[s], by simp [bag1, defM, startT, sSeq, sSet, sRet, sIf, sExpr, sNil, sAsg, sPar, sPar3, eVar, eK, eOp, eCall, mCall, eL, eH, aLim, aNil, aCons, aStar, eTup, eIf, bTest, TL.bAnd, TL.bOr, TL.bNot, bYes, eAnd, eOr, eNot, eNeg, eChain, eFld, mgName, mgTup, mgsCons, mgsNil, mgSub, bSub, bMod, bFdv, bPow, bI, bI0, bAdd, bMul, bLt, bLe, bGt, bGe, bOrdG, bIs, bIsn, bIsG, TL.isNon, bIx, bSetL, fLen, fList, fTuple, fMax2, fMin2, fII, fAbs, fInt, fDivmod, TL.listOf, seqOf, tupOf, List.getElem?_cons_zero, List.getElem?_cons_succ, List.set_cons_zero, List.set_cons_succ, List.map, List.length_cons, List.length_nil, List.replicate, List.append_nil, List.cons_append, List.nil_append, Option.bind_some, Option.bind, q, ix]⟩
    · have m1 : cMul 6151 (s : Nat) = true := cm_l (by omega) (by omega)
      exact ⟨_, by simp [bag1, defM, startT, sSeq, sSet, sRet, sIf, sExpr, sNil, sAsg, sPar, sPar3, eVar, eK, eOp, eCall, mCall, eL, eH, aLim, aNil, aCons, aStar, eTup, eIf, bTest, TL.bAnd, TL.bOr, TL.bNot, bYes, eAnd, eOr, eNot, eNeg, eChain, eFld, mgName, mgTup, mgsCons, mgsNil, mgSub, bSub, bMod, bFdv, bPow, bI, bI0, bAdd, bMul, bLt, bLe, bGt, bGe, bOrdG, bIs, bIsn, bIsG, TL.isNon, bIx, bSetL, fLen, fList, fTuple, fMax2, fMin2, fII, fAbs, fInt, fDivmod, TL.listOf, seqOf, tupOf, List.getElem?_cons_zero, List.getElem?_cons_succ, List.set_cons_zero, List.set_cons_succ, List.map, List.length_cons, List.length_nil, List.replicate, List.append_nil, List.cons_append, List.nil_append, Option.bind_some, Option.bind, q, m1]; rfl⟩
  obtain ⟨c, s1⟩ := s1
  obtain ⟨ts, s2, s3⟩ : ∃ ts, bagI [some (.arg (ns.map T.int)), some (.int (s : Nat)), some (.int c), none] h = .ok (fun h => seqS h (.lst ts)) h ∧ ∀ t ∈ ts, ∃ i, t = T.int i := by
    by_cases q : ns.length ≤ s
    · exact ⟨cutT (ns.map T.int) none (some 3), by simp [bagI, defM, startT, sSeq, sSet, sRet, sIf, sExpr, sNil, sAsg, sPar, sPar3, eVar, eK, eOp, eCall, mCall, eL, eH, aLim, aNil, aCons, aStar, eTup, eIf, bTest, TL.bAnd, TL.bOr, TL.bNot, bYes, eAnd, eOr, eNot, eNeg, eChain, eFld, mgName, mgTup, mgsCons, mgsNil, mgSub, bSub, bMod, bFdv, bPow, bI, bI0, bAdd, bMul, bLt, bLe, bGt, bGe, bOrdG, bIs, bIsn, bIsG, TL.isNon, bIx, bSetL, fLen, fList, fTuple, fMax2, fMin2, fII, fAbs, fInt, fDivmod, TL.listOf, seqOf, tupOf, List.getElem?_cons_zero, List.getElem?_cons_succ, List.set_cons_zero, List.set_cons_succ, List.map, List.length_cons, List.length_nil, List.replicate, List.append_nil, List.cons_append, List.nil_append, Option.bind_some, Option.bind, iSeqC, walkable, seqS, eSl, oNo, oSome, bSl, q], fun t ht => by
        unfold cutT at ht
        obtain ⟨i, _, rfl⟩ := List.mem_map.mp (List.mem_of_mem_drop (List.mem_of_mem_take ht))
        exact ⟨i, rfl⟩⟩
    · exact ⟨[], by simp [bagI, defM, startT, sSeq, sSet, sRet, sIf, sExpr, sNil, sAsg, sPar, sPar3, eVar, eK, eOp, eCall, mCall, eL, eH, aLim, aNil, aCons, aStar, eTup, eIf, bTest, TL.bAnd, TL.bOr, TL.bNot, bYes, eAnd, eOr, eNot, eNeg, eChain, eFld, mgName, mgTup, mgsCons, mgsNil, mgSub, bSub, bMod, bFdv, bPow, bI, bI0, bAdd, bMul, bLt, bLe, bGt, bGe, bOrdG, bIs, bIsn, bIsG, TL.isNon, bIx, bSetL, fLen, fList, fTuple, fMax2, fMin2, fII, fAbs, fInt, fDivmod, TL.listOf, seqOf, tupOf, List.getElem?_cons_zero, List.getElem?_cons_succ, List.set_cons_zero, List.set_cons_succ, List.map, List.length_cons, List.length_nil, List.replicate, List.append_nil, List.cons_append, List.nil_append, Option.bind_some, Option.bind, iSeqC, walkable, seqS, eSl, oNo, oSome, bSl, q], fun t ht => by cases ht⟩
  obtain ⟨τ', h', q1, q2⟩ := sFor_inv (g := mgName 3) (body := bagB) (ts := ts) (fun _ τ h' => ∃ (c : Int) (a : Option T), τ = [some (.arg (ns.map T.int)), some (.int (s : Nat)), some (.int c), a] ∧ h' = h) s2 ⟨c, none, rfl, rfl⟩ (fun _ _ _ _ => rfl) (fun i hi τ h' I => by
    obtain ⟨c, a, rfl, rfl⟩ := I
    obtain ⟨p, hp⟩ := s3 _ (List.getElem_mem hi)
    have m1 : cMul c 37 = true := cm_r (by omega) (by omega)
    refine ⟨_, _, _, _, rfl, .inl ?_, (c * 37 + p) % 2147483587, some (.int p), rfl, rfl⟩
    rw [hp]
    simp [bagB, defM, startT, sSeq, sSet, sRet, sIf, sExpr, sNil, sAsg, sPar, sPar3, eVar, eK, eOp, eCall, mCall, eL, eH, aLim, aNil, aCons, aStar, eTup, eIf, bTest, TL.bAnd, TL.bOr, TL.bNot, bYes, eAnd, eOr, eNot, eNeg, eChain, eFld, mgName, mgTup, mgsCons, mgsNil, mgSub, bSub, bMod, bFdv, bPow, bI, bI0, bAdd, bMul, bLt, bLe, bGt, bGe, bOrdG, bIs, bIsn, bIsG, TL.isNon, bIx, bSetL, fLen, fList, fTuple, fMax2, fMin2, fII, fAbs, fInt, fDivmod, TL.listOf, seqOf, tupOf, List.getElem?_cons_zero, List.getElem?_cons_succ, List.set_cons_zero, List.set_cons_succ, List.map, List.length_cons, List.length_nil, List.replicate, List.append_nil, List.cons_append, List.nil_append, Option.bind_some, Option.bind, mgName, m1])
  obtain ⟨c, a, rfl, rfl⟩ := q2
  have s4 : ∃ b, bagR [some (.arg (ns.map T.int)), some (.int (s : Nat)), some (.int c), a] h' = .rt (.ref h'.length) (h' ++ [bag (c % 2147483587) b 0]) := by
    by_cases q : c < 0
    · exact ⟨-c, by simp [bagR, defM, startT, sSeq, sSet, sRet, sIf, sExpr, sNil, sAsg, sPar, sPar3, eVar, eK, eOp, eCall, mCall, eL, eH, aLim, aNil, aCons, aStar, eTup, eIf, bTest, TL.bAnd, TL.bOr, TL.bNot, bYes, eAnd, eOr, eNot, eNeg, eChain, eFld, mgName, mgTup, mgsCons, mgsNil, mgSub, bSub, bMod, bFdv, bPow, bI, bI0, bAdd, bMul, bLt, bLe, bGt, bGe, bOrdG, bIs, bIsn, bIsG, TL.isNon, bIx, bSetL, fLen, fList, fTuple, fMax2, fMin2, fII, fAbs, fInt, fDivmod, TL.listOf, seqOf, tupOf, List.getElem?_cons_zero, List.getElem?_cons_succ, List.set_cons_zero, List.set_cons_succ, List.map, List.length_cons, List.length_nil, List.replicate, List.append_nil, List.cons_append, List.nil_append, Option.bind_some, Option.bind, q, bag]⟩
    · by_cases p : 1000000000000000000 ≤ c
      · exact ⟨c, by simp [bagR, defM, startT, sSeq, sSet, sRet, sIf, sExpr, sNil, sAsg, sPar, sPar3, eVar, eK, eOp, eCall, mCall, eL, eH, aLim, aNil, aCons, aStar, eTup, eIf, bTest, TL.bAnd, TL.bOr, TL.bNot, bYes, eAnd, eOr, eNot, eNeg, eChain, eFld, mgName, mgTup, mgsCons, mgsNil, mgSub, bSub, bMod, bFdv, bPow, bI, bI0, bAdd, bMul, bLt, bLe, bGt, bGe, bOrdG, bIs, bIsn, bIsG, TL.isNon, bIx, bSetL, fLen, fList, fTuple, fMax2, fMin2, fII, fAbs, fInt, fDivmod, TL.listOf, seqOf, tupOf, List.getElem?_cons_zero, List.getElem?_cons_succ, List.set_cons_zero, List.set_cons_succ, List.map, List.length_cons, List.length_nil, List.replicate, List.append_nil, List.cons_append, List.nil_append, Option.bind_some, Option.bind, q, p, bag]⟩
      · exact ⟨0, by simp [bagR, defM, startT, sSeq, sSet, sRet, sIf, sExpr, sNil, sAsg, sPar, sPar3, eVar, eK, eOp, eCall, mCall, eL, eH, aLim, aNil, aCons, aStar, eTup, eIf, bTest, TL.bAnd, TL.bOr, TL.bNot, bYes, eAnd, eOr, eNot, eNeg, eChain, eFld, mgName, mgTup, mgsCons, mgsNil, mgSub, bSub, bMod, bFdv, bPow, bI, bI0, bAdd, bMul, bLt, bLe, bGt, bGe, bOrdG, bIs, bIsn, bIsG, TL.isNon, bIx, bSetL, fLen, fList, fTuple, fMax2, fMin2, fII, fAbs, fInt, fDivmod, TL.listOf, seqOf, tupOf, List.getElem?_cons_zero, List.getElem?_cons_succ, List.set_cons_zero, List.set_cons_succ, List.map, List.length_cons, List.length_nil, List.replicate, List.append_nil, List.cons_append, List.nil_append, Option.bind_some, Option.bind, q, p, bag]⟩
  obtain ⟨b, s4⟩ := s4
  have ib : IsB (bag (c % 2147483587) b 0) := ⟨_, _, _, rfl, Int.emod_nonneg _ (by omega), Int.emod_lt_of_pos _ (by omega)⟩
  refine ⟨h' ++ [bag (c % 2147483587) b 0], ?_, ⟨⟨_, by rw [List.getElem?_append_right (Nat.le_refl _), Nat.sub_self]; rfl, ib⟩, hf.app ib.low⟩⟩
  show defM 4 2 s_law_bag _ _ = _
  rw [bag_eq]
  exact defM_rt rfl ((seq_nx s1).trans ((seq_nx q1).trans s4))
theorem min2_int (p q : Int) (h : VH) : fMin2 [.int p, .int q] h = .ok (.int (if q < p then q else p)) h := rfl
theorem max2_int (p q : Int) (h : VH) : fMax2 [.int p, .int q] h = .ok (.int (if q > p then q else p)) h := rfl
theorem lcL_true {rd : VH → Option (List T)} {g : MG} {e : ME} {τ : TS_} {ts : List T} (hrd : ∀ h, rd h = some ts) (I : VH → Prop) (hb : ∀ t ∈ ts, ∀ h, I h → ∃ τ1 h', g t τ h = .ok τ1 h ∧ e τ1 h = .ok (.bl true) h' ∧ I h') :
    ∀ (k i : Nat) (acc : List T) (h : VH), i + k = ts.length → I h → ∃ h', lcL rd g bYes e τ ts.length k i acc h = .ok (acc ++ (List.range k).map fun _ => T.bl true) h' ∧ I h' := by
  intro k
  induction k with
  | zero =>
    intro i acc h hi Ih
    exact ⟨h, by simp [lcL, hrd], Ih⟩
  | succ k ih =>
    intro i acc h hi Ih
    have hlt : i < ts.length := by omega
    have e1 : ts[i]? = some ts[i] := List.getElem?_eq_getElem hlt
    obtain ⟨τ1, h2, a1, a2, I2⟩ := hb ts[i] (List.getElem_mem hlt) h Ih
    obtain ⟨h3, z, I3⟩ := ih (i + 1) (acc ++ [.bl true]) h2 (by omega) I2
    refine ⟨h3, ?_, I3⟩
    have b : bYes τ1 h = .ok true h := rfl
    simp only [lcL, hrd, e1, a1, b, a2, if_true]
    rw [z, List.range_succ_eq_map, List.map_cons, List.map_map, List.append_assoc]
    rfl
theorem cases_ok {bag right : List T → VH → Res T} {m : Nat} (hm : m ≤ 50) (hm2 : 2 ≤ m) (hb : ∀ (ns : List Int) (s : Nat) (h : VH), s < 100 → Flat h → ∃ h', bag [.arg (ns.map T.int), .int (s : Nat)] h = .ok (.ref h.length) h' ∧ Iv h.length h')
    (hr : ∀ (n : Nat) (h : VH), Iv n h → ∃ h', right [.ref n] h = .ok (.bl true) h' ∧ Iv n h') (ns : List Int) (hl : ns.length ≤ 63) :
    ∃ h', defM 2 1 (sRet (eCall fAll (aCons (eL (mLc (iRange1 (aCons (eCall fMax2 (aCons (eK (.int 2)) (aCons (eCall fMin2 (aCons (eCall fLen (aCons (eVar 0) aNil)) (aCons (eK (.int (m : Nat))) aNil))) aNil))) aNil)) [1] (mgName 1) bYes (eCall right (aCons (eCall bag (aCons (eVar 0) (aCons (eVar 1) aNil))) aNil)))) aNil))) [.arg (ns.map T.int)] [] = .ok (.bl true) h' := by
  obtain ⟨K, hK, eK'⟩ : ∃ K : Nat, K ≤ 50 ∧ (if (if ((m : Nat) : Int) < ((ns.length : Nat) : Int) then ((m : Nat) : Int) else ((ns.length : Nat) : Int)) > 2 then (if ((m : Nat) : Int) < ((ns.length : Nat) : Int) then ((m : Nat) : Int) else ((ns.length : Nat) : Int)) else (2 : Int)) = (K : Nat) := by
    by_cases q : (m : Int) < (ns.length : Nat)
    · rw [if_pos q]
      by_cases p : (m : Int) > 2
      · rw [if_pos p]; exact ⟨m, hm, rfl⟩
      · rw [if_neg p]; exact ⟨2, by omega, rfl⟩
    · rw [if_neg q]
      by_cases p : ((ns.length : Nat) : Int) > 2
      · rw [if_pos p]; exact ⟨ns.length, by omega, rfl⟩
      · rw [if_neg p]; exact ⟨2, by omega, rfl⟩
  have e1 : aCons (eCall fMax2 (aCons (eK (.int 2)) (aCons (eCall fMin2 (aCons (eCall fLen (aCons (eVar 0) aNil)) (aCons (eK (.int (m : Nat))) aNil))) aNil))) aNil (startT 2 [.arg (ns.map T.int)]) [] = .ok [.int (K : Nat)] [] := by
    have l1 : eCall fLen (aCons (eVar 0) aNil) (startT 2 [.arg (ns.map T.int)]) [] = .ok (.int (ns.length : Nat)) [] := by
      refine (call_ok (ts := [.arg (ns.map T.int)]) rfl).trans ?_
      simp [fLen, seqOf]
    have l2 := (call_ok (b := fMin2) (cons_ok l1 (rfl : aCons (eK (.int (m : Nat))) aNil (startT 2 [.arg (ns.map T.int)]) [] = .ok [.int (m : Nat)] []))).trans (min2_int _ _ _)
    have l3 := (call_ok (b := fMax2) (cons_ok (rfl : eK (.int 2) (startT 2 [.arg (ns.map T.int)]) [] = .ok (.int 2) []) (cons_ok l2 (rfl : aNil (startT 2 [.arg (ns.map T.int)]) [] = .ok [] [])))).trans (max2_int _ _ _)
    rw [eK'] at l3
    exact cons_ok l3 rfl
  obtain ⟨h', z, fl⟩ := lcL_true (rd := fun _ => some (rangeT 0 K)) (g := mgName 1) (e := eCall right (aCons (eCall bag (aCons (eVar 0) (aCons (eVar 1) aNil))) aNil)) (τ := wipeT (startT 2 [.arg (ns.map T.int)]) [1]) (ts := rangeT 0 K) (fun _ => rfl) Flat (fun t ht h f => by
    obtain ⟨i, hi, rfl⟩ := List.getElem_of_mem ht
    obtain ⟨hi2, ei⟩ := range_at hi
    rw [ei, Int.zero_add]
    obtain ⟨h1, b1, I1⟩ := hb ns i h (by omega) f
    obtain ⟨h2, b2, I2⟩ := hr _ h1 I1
    exact ⟨[some (.arg (ns.map T.int)), some (.int (i : Nat))], h2, rfl, (call_ok (cons_ok ((call_ok (ts := [.arg (ns.map T.int), .int (i : Nat)]) rfl).trans b1) rfl)).trans b2, I2.fl⟩) K 0 [] [] (by rw [range_len]; omega) (fun o ho => by cases ho)
  rw [range_len] at z
  have q : mLc (iRange1 (aCons (eCall fMax2 (aCons (eK (.int 2)) (aCons (eCall fMin2 (aCons (eCall fLen (aCons (eVar 0) aNil)) (aCons (eK (.int (m : Nat))) aNil))) aNil))) aNil)) [1] (mgName 1) bYes (eCall right (aCons (eCall bag (aCons (eVar 0) (aCons (eVar 1) aNil))) aNil)) (startT 2 [.arg (ns.map T.int)]) [] = .ok ((List.range K).map fun _ => T.bl true) h' := by
    unfold mLc
    rw [BD.rngk e1 (by omega)]
    simp only [range_len]
    rw [if_pos (by omega), z]
    rfl
  exact ⟨h', defM_rt rfl (ret_ok ((call_ok (cons_ok (eL_ok q) rfl)).trans (BD.allT (List.range K) h')))⟩
end BG
namespace BG
open PySem L2 TL K58 K13 BD
theorem Iv.put {n q : Nat} {h : VH} (I : Iv n h) (ne : q ≠ n) {o : VO} (ho : ∀ m, VO.lowR m o = true) : Iv n (h.set q o) := by
  obtain ⟨p, e, i⟩ := I.bg
  exact ⟨⟨p, by rw [List.getElem?_set_ne ne]; exact e, i⟩, I.fl.set ho⟩
theorem tk_ok {n : Nat} {h : VH} {k : Int} (I : Iv n h) (hk : 0 < k) (hk2 : k < 1000000) : ∃ (r : Nat) (o : VO), K58.m_law_take [.ref n, .int k] h = .ok (nI r) (h.set n o) ∧ (r : Int) < k ∧ IsB o := by
  obtain ⟨r, o, e, r0, r1, io⟩ := take_raw I.bg hk hk2
  refine ⟨r.toNat, o, ?_, by omega, io⟩
  rw [e]
  refine congrArg (fun i => Res.ok (T.int i) _) ?_
  omega
theorem of1_ok {n : Nat} {h : VH} {ts : List T} (I : Iv n h) (h0 : 0 < ts.length) (h1 : ts.length < 1000000) : ∃ (r : Nat) (hr : r < ts.length) (o : VO), K58.m_law_of [.ref n, .lst ts] h = .ok ts[r] (h.set n o) ∧ IsB o := by
  obtain ⟨r, o, e, lt, io⟩ := tk_ok (k := (ts.length : Int)) I (by omega) (by omega)
  have hr : r < ts.length := by omega
  refine ⟨r, hr, o, ?_, io⟩
  have ix : atI ts (r : Int) = some ts[r] := by rw [ix_nn (by omega) (by omega), Int.toNat_natCast, List.getElem?_eq_getElem hr]
  refine defM_rt rfl (ret_ok ?_)
  refine (op_ok (t := .lst ts) (u := .int (r : Nat)) (h1 := h) (h2 := h.set n o) rfl ((call_ok (ts := [.ref n, .int (ts.length : Nat)]) rfl).trans e)).trans ?_
  simp only [TL.bIx, TL.listOf, ix]
abbrev kI (c : Nat) : Key := .inl (c : Int)
abbrev rkT (rs : List (List Nat)) : List (List Key × T) := rs.map fun r => (r.map kI, T.bl true)
def asNat (xs : List Nat) : List Nat := (setI (nZ xs)).map Int.toNat
theorem asNat_cast (xs : List Nat) : nZ (asNat xs) = setI (nZ xs) := by
  unfold asNat nZ
  rw [List.map_map]
  refine (List.map_congr_left fun x hx => ?_).trans (List.map_id _)
  obtain ⟨c, _, rfl⟩ := List.mem_map.mp (setI_mem.mp hx)
  show (((c : Int).toNat : Nat) : Int) = c
  omega
theorem asNat_mem {c : Nat} {xs : List Nat} : c ∈ asNat xs ↔ c ∈ xs := by
  unfold asNat
  rw [List.mem_map]
  constructor
  · rintro ⟨x, hx, rfl⟩
    obtain ⟨d, hd, rfl⟩ := List.mem_map.mp (setI_mem.mp hx)
    exact hd
  · intro hc
    exact ⟨(c : Int), setI_mem.mpr (List.mem_map.mpr ⟨c, hc, rfl⟩), rfl⟩
theorem asNat_asc (xs : List Nat) : (asNat xs).Pairwise (· < ·) := by
  have p := setI_asc (nZ xs)
  rw [← asNat_cast] at p
  unfold nZ at p
  rw [List.pairwise_map] at p
  exact p.imp fun h => by omega
theorem asNat_len (xs : List Nat) : (asNat xs).length ≤ xs.length := by
  unfold asNat
  rw [List.length_map]
  have := setI_len (nZ xs)
  rw [List.length_map] at this
  exact this
theorem ints_nI : ∀ xs : List Nat, intsOf (xs.map nI) = some (nZ xs)
  | [] => rfl
  | x :: xs => by
    show (intsOf (xs.map nI)).map ((x : Int) :: ·) = _
    rw [ints_nI xs]
    rfl
theorem keys_nI : ∀ ys : List Nat, (ys.map nI).mapM keyT = some (ys.map kI) := fun ys => by
  rw [List.mapM_map]
  exact mapM_some fun c _ => rfl
theorem kI_inj : ∀ {a b : List Nat}, a.map kI = b.map kI → a = b
  | [], [], _ => rfl
  | [], _ :: _, h => by cases h
  | _ :: _, [], h => by cases h
  | x :: a, y :: b, h => by
    simp only [List.map_cons, List.cons.injEq, Sum.inl.injEq] at h
    rw [kI_inj h.2, show x = y by omega]
theorem put_rk (rs : List (List Nat)) (y : List Nat) : putG (rkT rs) (y.map kI) (T.bl true) = rkT (if y ∈ rs then rs else rs ++ [y]) := by
  have e : ((rkT rs).any fun q => decide (q.1 = y.map kI)) = decide (y ∈ rs) := by
    rw [List.any_map]
    induction rs with
    | nil => simp
    | cons r rs ih =>
      rw [List.any_cons, ih]
      by_cases q : r = y
      · subst q; simp
      · have : ¬ (r.map kI = y.map kI) := fun z => q (kI_inj z)
        have q2 : ¬ y = r := fun z => q z.symm
        simp [this, q2]
  unfold putG
  rw [e]
  by_cases q : y ∈ rs
  · rw [decide_eq_true q, if_pos rfl, if_pos q, List.map_map]
    refine List.map_congr_left fun r _ => ?_
    show (if r.map kI = y.map kI then (r.map kI, T.bl true) else (r.map kI, T.bl true)) = _
    split <;> rfl
  · rw [decide_eq_false q, if_neg Bool.false_ne_true, if_neg q]
    show _ = List.map _ (rs ++ [y])
    rw [List.map_append]
    rfl
theorem intsK_nI : ∀ r : List Nat, intsK (r.map kI) = some (nZ r)
  | [] => rfl
  | c :: r => by
    show (intsK (r.map kI)).map ((c : Int) :: ·) = _
    rw [intsK_nI r]
    rfl
theorem ints_rk (rs : List (List Nat)) : (rkT rs).mapM (fun q => intsK q.1) = some (rs.map nZ) := by
  rw [List.mapM_map]
  exact mapM_some fun r _ => intsK_nI r
theorem srtI_rows (rs : List (List Nat)) : (srtI (rs.map nZ)).map rowT = (srtR rs).map lineT := by
  have e : srtI (rs.map nZ) = (srtR rs).map nZ := by
    unfold srtI srtR
    refine (List.map_mergeSort (r := rowLe) (s := W.dataLe false encI) (f := nZ) (l := rs) fun a _ b _ => ?_).symm
    have f : ∀ r : List Nat, encI (nZ r) = lnD r := fun r => by
      show PyData.tuple ((r.map fun c : Nat => (c : Int)).map .int) = _
      rw [List.map_map]
      rfl
    show _ = (!W.dataLt (encI (nZ b)) (encI (nZ a)))
    rw [f, f]
    rfl
  rw [e, List.map_map]
  refine List.map_congr_left fun r _ => ?_
  show T.tup ((r.map fun c : Nat => (c : Int)).map T.int) = _
  rw [List.map_map]
  rfl
def rwM : MI := (iRange1 (aCons (eCall m_law_take (aCons (eVar 0) (aCons (eOp TL.bAdd (eVar 2) (eK (.int 1))) aNil))) aNil))
def rwW : MS := (sSet 5 (eCall m_law_of (aCons (eVar 0) (aCons (eL (aLim (aCons (eK (.int 1)) (aCons (eK (.int 2)) (aCons (eK (.int 2)) (aCons (eK (.int 2)) (aCons (eK (.int 3)) (aCons (eK (.int 3)) (aCons (eK (.int 4)) (aCons (eK (.int 5)) aNil)))))))))) aNil))))
def rwL : MA := (mLc (iRange1 (aCons (eVar 5) aNil)) [6] (mgName 6) bYes (eCall m_law_take (aCons (eVar 0) (aCons (eVar 1) aNil))))
def rwP : MS := (sAsg (eK (.bl true)) (mgPutT (eVar 3) (mCall fTupF (aCons (eL (mSortSetI (eL rwL))) aNil))))
def rwR : MS := (sRet (eCall fTuple (aCons (eL (mCall fSortedDT (aCons (eVar 3) aNil))) aNil)))
theorem rw_eq : K66.s_law_rows = sSeq (sSet 3 eDNewT) (sSeq (sFor rwM (mgName 4) (sSeq rwW rwP)) rwR) := rfl
abbrev rwF (n size most L : Nat) (a4 a5 : Option T) : TS_ := [some (.ref n), some (nI size), some (nI most), some (.ref L), a4, a5, none]
section
variable {n size most L : Nat}
structure RwI (size L : Nat) (k : Nat) (rs : List (List Nat)) (h : VH) : Prop where
  at_ : h[L]? = some (.dcT (rkT rs))
  nd : rs.Nodup
  ln : ∀ r ∈ rs, Line size r ∧ r.length ≤ 5
  few : rs.length ≤ k
theorem rk_low (rs : List (List Nat)) (m : Nat) : VO.lowR m (.dcT (rkT rs)) = true := by
  show lowRs m ((rkT rs).map (·.2)) = true
  rw [List.map_map]
  induction rs with
  | nil => rfl
  | cons r rs ih => exact (by simpa [lowRs, T.lowR] using ih)
theorem rwB_ok (s0 : 0 < size) (s1 : size ≤ 30) (nL : n < L) {k : Nat} (k30 : k < 1000) {rs : List (List Nat)} {h : VH} (I : Iv n h) (J : RwI size L k rs h) (a4 a5 : Option T) :
    ∃ (a5' : Option T) (rs' : List (List Nat)) (h' : VH), sSeq rwW rwP (rwF n size most L a4 a5) h = .nx (rwF n size most L a4 a5') h' ∧ Iv n h' ∧ RwI size L (k + 1) rs' h' ∧ (∀ x, x ≠ n → x ≠ L → h'[x]? = h[x]?) ∧ h'.length = h.length := by
  obtain ⟨ws, hws⟩ : ∃ ws : List T, ws = [1, 2, 2, 2, 3, 3, 4, 5].map nI := ⟨_, rfl⟩
  obtain ⟨r, hr, o, e1, io⟩ := of1_ok (ts := ws) I (by rw [hws]; simp) (by rw [hws]; simp)
  obtain ⟨w, ew, w1, w5⟩ : ∃ w : Nat, ws[r] = nI w ∧ 1 ≤ w ∧ w ≤ 5 := by
    subst hws
    refine ⟨[1, 2, 2, 2, 3, 3, 4, 5][r]'(by simpa using hr), List.getElem_map .., ?_⟩
    have : ∀ x ∈ [1, 2, 2, 2, 3, 3, 4, 5], 1 ≤ x ∧ x ≤ 5 := by decide
    exact this _ (List.getElem_mem _)
  rw [ew] at e1
  have I1 := I.set io
  obtain ⟨h1, eh1⟩ : ∃ h1, h1 = h.set n o := ⟨_, rfl⟩
  rw [← eh1] at e1 I1
  have g1 : ∀ x, x ≠ n → h1[x]? = h[x]? := fun x hx => by rw [eh1]; exact List.getElem?_set_ne (Ne.symm hx)
  have l1 : h1.length = h.length := by rw [eh1, List.length_set]
  obtain ⟨τ, hτ⟩ : ∃ τ, τ = rwF n size most L a4 (some (nI w)) := ⟨_, rfl⟩
  have S1 : rwW (rwF n size most L a4 a5) h = .nx τ h1 := by
    rw [hws] at e1
    rw [hτ]
    exact (set_ok (i := 5) ((call_ok (b := m_law_of) (ts := [.ref n, .lst ([1, 2, 2, 2, 3, 3, 4, 5].map nI)]) rfl).trans e1)).trans rfl
  obtain ⟨acc, h2, z, xs, rfl, lx, mx, I2, g2, l2⟩ := mLc_inv (mi := iRange1 (aCons (eVar 5) aNil)) (ws := [6]) (g := mgName 6) (e := eCall m_law_take (aCons (eVar 0) (aCons (eVar 1) aNil))) (τ := τ) (h := h1) (h1 := h1) (rd := fun _ => some (rangeT 0 w)) (ts := rangeT 0 w) (rngk (by rw [hτ]; rfl) (by omega)) (fun _ => rfl) (by rw [range_len]; omega)
    (fun i acc h2 => ∃ xs : List Nat, acc = xs.map nI ∧ xs.length = i ∧ (∀ x ∈ xs, x < size) ∧ Iv n h2 ∧ (∀ x, x ≠ n → h2[x]? = h1[x]?) ∧ h2.length = h1.length) ⟨[], rfl, rfl, fun _ q => (by cases q), I1, fun _ _ => rfl, rfl⟩ (fun i hi acc h2 K => by
      obtain ⟨xs, rfl, lx, mx, I2, g2, l2⟩ := K
      obtain ⟨c, o2, e2, c2, io2⟩ := tk_ok (k := (size : Nat)) I2 (by omega) (by omega)
      refine ⟨(wipeT τ [6]).set 6 (some (rangeT 0 w)[i]), nI c, h2.set n o2, rfl, (call_ok (b := m_law_take) (ts := [.ref n, nI size]) (by rw [hτ]; rfl)).trans e2, xs ++ [c], by rw [List.map_append]; rfl, by simp [lx], fun x hx => ?_, I2.set io2, fun x hx => ?_, by rw [List.length_set]; exact l2⟩
      · rcases List.mem_append.mp hx with q | q
        · exact mx x q
        · rw [List.mem_singleton.mp q]; omega
      · rw [List.getElem?_set_ne (Ne.symm hx)]; exact g2 x hx)
  rw [range_len] at lx
  obtain ⟨y, hy⟩ : ∃ y, y = asNat xs := ⟨_, rfl⟩
  have yl : Line size y ∧ y.length ≤ 5 := by
    refine ⟨⟨fun e0 => ?_, by rw [hy]; exact asNat_asc xs, fun c hc => mx c (asNat_mem.mp (by rw [← hy]; exact hc))⟩, by rw [hy]; have := asNat_len xs; omega⟩
    cases xs with
    | nil => simp at lx; omega
    | cons x xs =>
      have : x ∈ y := by rw [hy]; exact asNat_mem.mpr List.mem_cons_self
      rw [e0] at this
      cases this
  have X : eL (mSortSetI (eL rwL)) τ h1 = .ok (.lst (y.map nI)) h2 := by
    refine eL_ok ?_
    unfold mSortSetI
    rw [eL_ok (show rwL τ h1 = .ok (xs.map nI) h2 from z)]
    simp only [TL.listOf, ints_nI]
    rw [if_pos (by rw [List.length_map]; omega), ← asNat_cast, ← hy]
    rw [List.map_map]
    rfl
  have at2 : h2[L]? = some (.dcT (rkT rs)) := (g2 L (by omega)).trans ((g1 L (by omega)).trans J.at_)
  have few := J.few
  obtain ⟨rs', hrs⟩ : ∃ rs', rs' = if y ∈ rs then rs else rs ++ [y] := ⟨_, rfl⟩
  have S2 : rwP τ h1 = .nx τ (h2.set L (.dcT (rkT rs'))) := by
    have v3 : eVar 3 τ h1 = .ok (.ref L) h1 := by rw [hτ]; rfl
    have Y : mCall fTupF (aCons (eL (mSortSetI (eL rwL))) aNil) τ h1 = .ok (y.map nI) h2 := by
      unfold mCall
      rw [cons_ok X (rfl : aNil τ h2 = .ok [] h2)]
      rfl
    have P : mgPutT (eVar 3) (mCall fTupF (aCons (eL (mSortSetI (eL rwL))) aNil)) (.bl true) τ h1 = .ok τ (h2.set L (.dcT (rkT rs'))) := by
      unfold mgPutT
      simp only [v3, Y, at2, keys_nI]
      rw [if_pos (by rw [List.length_map]; omega), put_rk, ← hrs]
    show sAsg (eK (.bl true)) _ τ h1 = _
    unfold sAsg
    rw [show eK (.bl true) τ h1 = .ok (.bl true) h1 from rfl]
    simp only
    rw [P]
  have lL : L < h2.length := (List.getElem?_eq_some_iff.mp at2).1
  refine ⟨some (nI w), rs', h2.set L (.dcT (rkT rs')), ?_, I2.put (by omega) (rk_low rs'), ⟨List.getElem?_set_self lL, ?_, ?_, ?_⟩, fun x hx hL => ?_, by rw [List.length_set, l2, l1]⟩
  · rw [← hτ]
    exact (seq_nx S1).trans S2
  · rw [hrs]
    split
    · exact J.nd
    · rename_i ny
      rw [List.nodup_append]
      exact ⟨J.nd, by simp, fun a ha b hb e0 => by rw [List.mem_singleton.mp hb] at e0; exact ny (e0 ▸ ha)⟩
  · intro r2 hr2
    rw [hrs] at hr2
    split at hr2
    · exact J.ln r2 hr2
    · rcases List.mem_append.mp hr2 with q | q
      · exact J.ln r2 q
      · rw [List.mem_singleton.mp q]; exact yl
  · rw [hrs]
    split
    · omega
    · rw [List.length_append]
      simp only [List.length_cons, List.length_nil]
      omega
  · rw [List.getElem?_set_ne (Ne.symm hL), g2 x hx, g1 x hx]
theorem rows_few {h : VH} (I : Iv n h) (s0 : 0 < size) (s1 : size ≤ 30) (m1 : most ≤ 30) :
    ∃ (rows : List (List Nat)) (h' : VH), K66.m_law_rows [.ref n, nI size, nI most] h = .ok (restsT rows) h' ∧ Iv n h' ∧ Rows size rows ∧ (∀ l ∈ rows, l.length ≤ 5) ∧ Same n h h' ∧ rows.length ≤ most := by
  have nL := I.lt
  obtain ⟨L, hL⟩ : ∃ L, L = h.length := ⟨_, rfl⟩
  obtain ⟨h1, eh1⟩ : ∃ h1, h1 = h ++ [VO.dcT []] := ⟨_, rfl⟩
  have I1 : Iv n h1 := by rw [eh1]; exact I.app (rk_low [])
  have S0 : sSet 3 eDNewT (startT 7 [.ref n, nI size, nI most]) h = .nx (rwF n size most L none none) h1 := by rw [eh1, hL]; rfl
  have at1 : h1[L]? = some (.dcT (rkT [])) := by rw [eh1, hL]; simp
  have g1 : ∀ x, x < h.length → h1[x]? = h[x]? := fun x hx => by rw [eh1]; exact List.getElem?_append_left hx
  obtain ⟨K, o, e2, lt, io⟩ := tk_ok (k := ((most : Nat) : Int) + 1) I1 (by omega) (by omega)
  have I2 := I1.set io
  obtain ⟨h2, eh2⟩ : ∃ h2, h2 = h1.set n o := ⟨_, rfl⟩
  rw [← eh2] at e2 I2
  have lh1 : h1.length = L + 1 := by rw [eh1, hL]; simp
  have M : rwM (rwF n size most L none none) h1 = .ok (fun _ => some (rangeT 0 K)) h2 := by
    have A := (op_ok (b := TL.bAdd) (rfl : eVar 2 (rwF n size most L none none) h1 = .ok (nI most) h1) (rfl : eK (.int 1) _ h1 = .ok (.int 1) h1)).trans (hAdd _ _ h1)
    have B := (call_ok (b := m_law_take) (cons_ok (rfl : eVar 0 (rwF n size most L none none) h1 = .ok (.ref n) h1) (cons_ok A (rfl : aNil _ h1 = .ok [] h1)))).trans e2
    exact rngk (cons_ok B (rfl : aNil _ h2 = .ok [] h2)) (by omega)
  obtain ⟨τ', h3, z, I3, g3, l3, rs, J, b4, b5, rfl⟩ := sFor_inv (mi := rwM) (g := mgName 4) (body := sSeq rwW rwP) (τ := rwF n size most L none none) (h := h1) (h1 := h2) (rd := fun _ => some (rangeT 0 K)) (ts := rangeT 0 K)
    (fun i τ h3 => Iv n h3 ∧ (∀ x, x ≠ n → x ≠ L → h3[x]? = h2[x]?) ∧ h3.length = h2.length ∧ ∃ rs, RwI size L i rs h3 ∧ ∃ b4 b5, τ = rwF n size most L b4 b5) M
    ⟨I2, fun _ _ _ => rfl, rfl, [], ⟨by rw [eh2, List.getElem?_set_ne (by omega)]; exact at1, List.nodup_nil, fun _ q => (by cases q), Nat.zero_le _⟩, none, none, rfl⟩ (fun _ _ _ _ => rfl) (fun i hi τ h3 Q => by
      obtain ⟨I3, g3, l3, rs, J, b4, b5, rfl⟩ := Q
      rw [range_len] at hi
      obtain ⟨b5', rs', h4, e4, I4, J4, g4, l4⟩ := rwB_ok (most := most) s0 s1 (by omega) (k := i) (by omega) I3 J (some (rangeT 0 K)[i]) b5
      exact ⟨rwF n size most L (some (rangeT 0 K)[i]) b5, h3, rwF n size most L (some (rangeT 0 K)[i]) b5', h4, rfl, .inl e4, I4, fun x hx hL => (g4 x hx hL).trans (g3 x hx hL), l4.trans l3, rs', J4, _, _, rfl⟩)
  rw [range_len] at J
  have few := J.few
  refine ⟨srtR rs, h3, ?_, I3, ⟨s0, s1, by rw [srtR_len]; omega, fun l hl => (J.ln l (srtR_mem.mp hl)).1, srtR_asc J.nd⟩, fun l hl => (J.ln l (srtR_mem.mp hl)).2, ⟨by rw [l3, eh2, List.length_set]; omega, fun x hx xn => ?_⟩, by rw [srtR_len]; omega⟩
  · have R : rwR (rwF n size most L b4 b5) h3 = .rt (restsT (srtR rs)) h3 := by
      have S : mCall fSortedDT (aCons (eVar 3) aNil) (rwF n size most L b4 b5) h3 = .ok ((srtR rs).map lineT) h3 := by
        unfold mCall
        rw [cons_ok (rfl : eVar 3 (rwF n size most L b4 b5) h3 = .ok (.ref L) h3) (rfl : aNil _ h3 = .ok [] h3)]
        unfold fSortedDT
        simp only [J.at_, ints_rk]
        have ne : ((rs.map nZ).all fun is => !is.isEmpty) = true := List.all_eq_true.mpr fun r hr => by
          obtain ⟨l, hl, rfl⟩ := List.mem_map.mp hr
          have := (J.ln l hl).1.ne
          cases l with
          | nil => exact absurd rfl this
          | cons _ _ => rfl
        rw [if_pos ⟨ne, by rw [List.length_map]; omega⟩, srtI_rows]
      exact ret_ok ((call_ok (b := fTuple) (cons_ok (eL_ok S) (rfl : aNil _ h3 = .ok [] h3))).trans rfl)
    show defM 7 3 K66.s_law_rows _ _ = _
    rw [rw_eq]
    exact defM_rt rfl ((seq_nx S0).trans ((seq_nx z).trans R))
  · rw [g3 x xn (by omega), eh2, List.getElem?_set_ne (Ne.symm xn)]
    exact g1 x hx
end
end BG
namespace BG
open PySem L2 TL K58 K13 BD
theorem popT_ok {n q : Nat} {h : VH} (I : Iv n h) (ne : q ≠ n) {ls : List Nat} (hq : h[q]? = some (.lst (ls.map nI))) (h0 : ls ≠ []) (h1 : ls.length ≤ 1000) {i0 iq : Nat} {τ : TS_} (v0 : ∀ h, eVar i0 τ h = .ok (.ref n) h) (vq : ∀ h, eVar iq τ h = .ok (.ref q) h) :
    ∃ (r : Nat) (hr : r < ls.length) (h' : VH), eMt "list" mPopAt (eVar iq) (aCons (eCall m_law_take (aCons (eVar i0) (aCons (eCall fLen (aCons (eVar iq) aNil)) aNil))) aNil) τ h = .ok (nI ls[r]) h' ∧ Iv n h' ∧ h'[q]? = some (.lst ((ls.eraseIdx r).map nI)) ∧ (∀ p, p ≠ n → p ≠ q → h'[p]? = h[p]?) ∧ h'.length = h.length := by
  have lp : 0 < ls.length := List.length_pos_iff.mpr h0
  have L := lenR (vq h) hq
  rw [List.length_map] at L
  obtain ⟨r, o, e, lt, io⟩ := tk_ok (k := ((ls.length : Nat) : Int)) I (by omega) (by omega)
  have hr : r < ls.length := by omega
  have D := (call_ok (b := m_law_take) (cons_ok (v0 h) (cons_ok L (rfl : aNil τ h = .ok [] h)))).trans e
  have hq1 : (h.set n o)[q]? = some (.lst (ls.map nI)) := by rw [List.getElem?_set_ne (Ne.symm ne)]; exact hq
  have lq : q < (h.set n o).length := (List.getElem?_eq_some_iff.mp hq1).1
  refine ⟨r, hr, (h.set n o).set q (.lst ((ls.eraseIdx r).map nI)), ?_, (I.set io).put ne (fun m => nI_low _ m), List.getElem?_set_self lq, fun p p1 p2 => ?_, by rw [List.length_set, List.length_set]⟩
  · have tt : tyT h "list" (.ref q) = true := by simp [tyT, hq]
    have sx : seqIndex? ((r : Nat) : Int) (ls.map nI).length = some r := by
      unfold seqIndex?
      rw [List.length_map]
      have a : ¬ ((r : Nat) : Int) < 0 := by omega
      simp [a, hr]
    have g : (ls.map nI)[r]? = some (nI ls[r]) := by rw [List.getElem?_map, List.getElem?_eq_getElem hr]; rfl
    unfold eMt
    simp only [vq h, tt, if_true, cons_ok D (rfl : aNil τ (h.set n o) = .ok [] (h.set n o)), mPopAt, hq1]
    rw [if_pos ⟨by omega, by omega⟩]
    simp only [sx, g, erase_map]
  · rw [List.getElem?_set_ne (Ne.symm p2), List.getElem?_set_ne (Ne.symm p1)]
def fm0 : MS := (sAsg (eTup (aCons (eCall K66.m_law_rows (aCons (eVar 0) (aCons (eVar 1) (aCons (eVar 2) aNil)))) (aCons (eH (mRg1 (eVar 1))) (aCons (eH (aLim aNil)) (aCons (eH (aLim aNil)) aNil))))) (mgTup 4 (mgsCons (mgName 4) (mgsCons (mgName 5) (mgsCons (mgName 6) (mgsCons (mgName 7) mgsNil))))))
def fmM : MI := (iRange1 (aCons (eCall m_law_take (aCons (eVar 0) (aCons (eOp TL.bAdd (eVar 3) (eK (.int 1))) aNil))) aNil))
def fmP : MS := (sSet 9 (eMt "list" mPopAt (eVar 5) (aCons (eCall m_law_take (aCons (eVar 0) (aCons (eCall fLen (aCons (eVar 5) aNil)) aNil))) aNil)))
def fmI : MS := (sIf (bTest (eOp TL.bEq (eCall m_law_take (aCons (eVar 0) (aCons (eK (.int 2)) aNil))) (eK (.int 0)))) (sExpr (eMt "list" mAppend (eVar 6) (aCons (eVar 9) aNil))) (sExpr (eMt "list" mAppend (eVar 7) (aCons (eVar 9) aNil))))
def fmB : MS := (sIf (bTest (eOp TL.bNe (eVar 5) (eL (aLim aNil)))) (sSeq fmP fmI) sNil)
def fmR : MS := (sRet (eTup (aCons (eVar 1) (aCons (eVar 4) (aCons (eCall fTuple (aCons (eL (mCall fSorted (aCons (eVar 6) aNil))) aNil)) (aCons (eCall fTuple (aCons (eL (mCall fSorted (aCons (eVar 7) aNil))) aNil)) aNil))))))
theorem fm_eq : K66.s_law_frame = sSeq fm0 (sSeq (sFor fmM (mgName 8) fmB) fmR) := rfl
abbrev fmF (n size most taken L : Nat) (rows : List (List Nat)) (a8 a9 : Option T) : TS_ := [some (.ref n), some (nI size), some (nI most), some (nI taken), some (restsT rows), some (.ref L), some (.ref (L + 1)), some (.ref (L + 2)), a8, a9]
theorem ne_nilH {p : Nat} {h : VH} {ls : List Nat} (hp : h[p]? = some (.lst (ls.map nI))) : TL.bNe (.ref p) (.lst []) h = .ok (.bl (!ls.isEmpty)) h := by
  have e1 : T.dat h 10 (.ref p) = some (.list (ls.map fun c : Nat => PyData.int (c : Nat))) := by
    show (match h[p]? with | some (.lst ts) => (ts.mapM (T.dat h 9)).map PyData.list | _ => none) = _
    rw [hp]
    have := mapM_some (f := fun c : Nat => T.dat h 9 (nI c)) (g := fun c : Nat => PyData.int (c : Nat)) (l := ls) fun c _ => dat_int
    simp only
    rw [List.mapM_map, show ((T.dat h 9) ∘ nI) = fun c : Nat => T.dat h 9 (nI c) from rfl, this]
    rfl
  have e2 : T.dat h 10 (.lst []) = some (.list []) := rfl
  unfold TL.bNe bEqG
  rw [e1, e2]
  cases ls with
  | nil => simp [PyData.eqv, PyData.eqvAll]
  | cons c ls => simp [PyData.eqv, PyData.eqvAll]
section
variable {n size most taken L : Nat} {rows : List (List Nat)}
structure FmI (n size L : Nat) (h : VH) : Prop where
  iv : Iv n h
  ex : ∃ ls a b : List Nat, (a ++ (b ++ ls)).Perm (List.range size) ∧ h[L]? = some (.lst (ls.map nI)) ∧ h[L + 1]? = some (.lst (a.map nI)) ∧ h[L + 2]? = some (.lst (b.map nI))
theorem fmB_ok {h0 h : VH} (J : FmI n size L h) (nL : n < L) (s1 : size ≤ 30) (hl : h0.length ≤ L) (sm : Same n h0 h) (a8 a9 : Option T) :
    ∃ (a9' : Option T) (h' : VH), fmB (fmF n size most taken L rows a8 a9) h = .nx (fmF n size most taken L rows a8 a9') h' ∧ FmI n size L h' ∧ Same n h0 h' := by
  obtain ⟨I, ls, a, b, pm, qL, qA, qB⟩ := J
  have pl := pm.length_eq
  simp only [List.length_append, List.length_range] at pl
  obtain ⟨τ, hτ⟩ : ∃ τ, τ = fmF n size most taken L rows a8 a9 := ⟨_, rfl⟩
  have v5 : ∀ h, eVar 5 τ h = .ok (.ref L) h := fun h => by rw [hτ]; rfl
  have C := test_ok ((op_ok (b := TL.bNe) (v5 h) (rfl : eL (aLim aNil) τ h = .ok (.lst []) h)).trans (ne_nilH qL))
  by_cases q : ls = []
  · subst q
    exact ⟨a9, h, by rw [← hτ]; exact (if_f C).trans (by rw [hτ]; rfl), ⟨I, [], a, b, pm, qL, qA, qB⟩, sm⟩
  · have qe : (!ls.isEmpty) = true := by
      cases ls with
      | nil => exact absurd rfl q
      | cons _ _ => rfl
    rw [qe] at C
    obtain ⟨r, hr, h1, e1, I1, q1L, g1, l1⟩ := popT_ok (q := L) (i0 := 0) (iq := 5) (τ := τ) I (by omega) qL q (by omega) (fun h => by rw [hτ]; rfl) v5
    obtain ⟨τ2, hτ2⟩ : ∃ τ2, τ2 = fmF n size most taken L rows a8 (some (nI ls[r])) := ⟨_, rfl⟩
    have SP : fmP τ h = .nx τ2 h1 := by
      refine (set_ok (i := 9) e1).trans ?_
      rw [hτ, hτ2]
      rfl
    obtain ⟨c, o, e2, lt, io⟩ := tk_ok (k := 2) I1 (by omega) (by omega)
    have I2 := I1.set io
    obtain ⟨h2, eh2⟩ : ∃ h2, h2 = h1.set n o := ⟨_, rfl⟩
    rw [← eh2] at e2 I2
    have g2 : ∀ p, p ≠ n → h2[p]? = h1[p]? := fun p hp => by rw [eh2]; exact List.getElem?_set_ne (Ne.symm hp)
    have D := test_ok ((op_ok (b := TL.bEq) ((call_ok (b := m_law_take) (g := aCons (eVar 0) (aCons (eK (.int 2)) aNil)) (τ := τ2) (h := h1) (ts := [.ref n, .int 2]) (by rw [hτ2]; rfl)).trans e2) (rfl : eK (.int 0) τ2 h2 = .ok (.int 0) h2)).trans (hEq _ _ h2))
    have sm2 : Same n h0 h2 := ⟨by rw [eh2, List.length_set, l1]; exact sm.1, fun x hx xn => (g2 x xn).trans ((g1 x xn (by omega)).trans (sm.2 x hx xn))⟩
    have l2 : h2.length = h1.length := by rw [eh2, List.length_set]
    have ep := erase_perm ls r hr
    have qA2 : h2[L + 1]? = some (.lst (a.map nI)) := (g2 _ (by omega)).trans ((g1 _ (by omega) (by omega)).trans qA)
    have qB2 : h2[L + 2]? = some (.lst (b.map nI)) := (g2 _ (by omega)).trans ((g1 _ (by omega) (by omega)).trans qB)
    have qL2 : h2[L]? = some (.lst ((ls.eraseIdx r).map nI)) := (g2 _ (by omega)).trans q1L
    have pmap : ∀ xs : List Nat, xs.map nI ++ [nI ls[r]] = (xs ++ [ls[r]]).map nI := fun xs => by rw [List.map_append]; rfl
    rw [← hτ]
    by_cases d : c = 0
    · rw [decide_eq_true (by omega)] at D
      have P := app2_ok (h := h2) (h2 := h2) (f := eVar 6) (g := eVar 9) (τ := τ2) (p := L + 1) qA2 qA2 (by rw [List.length_map]; omega) (by rw [hτ2]; rfl) (by rw [hτ2]; rfl : eVar 9 τ2 h2 = .ok (nI ls[r]) h2)
      rw [pmap] at P
      refine ⟨some (nI ls[r]), _, (if_t C).trans ((seq_nx SP).trans ((if_t D).trans (P.trans (by rw [hτ2])))), ⟨I2.put (by omega) (nI_low _), ls.eraseIdx r, a ++ [ls[r]], b, ?_, by rw [List.getElem?_set_ne (by omega)]; exact qL2, List.getElem?_set_self (List.getElem?_eq_some_iff.mp qA2).1, by rw [List.getElem?_set_ne (by omega)]; exact qB2⟩, sm2.put (by omega)⟩
      rw [List.append_assoc]
      refine List.Perm.trans ?_ pm
      refine List.Perm.append_left a ?_
      show (ls[r] :: (b ++ ls.eraseIdx r)).Perm _
      exact List.perm_middle.symm.trans (List.Perm.append_left b ep)
    · rw [decide_eq_false (by omega)] at D
      have P := app2_ok (h := h2) (h2 := h2) (f := eVar 7) (g := eVar 9) (τ := τ2) (p := L + 2) qB2 qB2 (by rw [List.length_map]; omega) (by rw [hτ2]; rfl) (by rw [hτ2]; rfl : eVar 9 τ2 h2 = .ok (nI ls[r]) h2)
      rw [pmap] at P
      refine ⟨some (nI ls[r]), _, (if_t C).trans ((seq_nx SP).trans ((if_f D).trans (P.trans (by rw [hτ2])))), ⟨I2.put (by omega) (nI_low _), ls.eraseIdx r, a, b ++ [ls[r]], ?_, by rw [List.getElem?_set_ne (by omega)]; exact qL2, by rw [List.getElem?_set_ne (by omega)]; exact qA2, List.getElem?_set_self (List.getElem?_eq_some_iff.mp qB2).1⟩, sm2.put (by omega)⟩
      refine List.Perm.trans ?_ pm
      refine List.Perm.append_left a ?_
      rw [List.append_assoc]
      exact List.Perm.append_left b ep
abbrev frameT (size : Nat) (rows : List (List Nat)) (mine its : List Nat) : T := .tup [nI size, restsT rows, lineT mine, lineT its]
theorem frame_few {h : VH} (I : Iv n h) (s0 : 0 < size) (s1 : size ≤ 30) (m1 : most ≤ 30) (t1 : taken ≤ 30) :
    ∃ (rows : List (List Nat)) (mine its : List Nat) (h' : VH), K66.m_law_frame [.ref n, nI size, nI most, nI taken] h = .ok (frameT size rows mine its) h' ∧ Iv n h' ∧ Rows size rows ∧ (∀ l ∈ rows, l.length ≤ 5) ∧ Hand size mine [] ∧ Hand size its mine ∧ Same n h h' ∧ rows.length ≤ most := by
  obtain ⟨rows, h1, e1, I1, R, w5, sm1, fewR⟩ := rows_few (most := most) I s0 s1 m1
  have nL := I1.lt
  obtain ⟨L, hL⟩ : ∃ L, L = h1.length := ⟨_, rfl⟩
  obtain ⟨h2, eh2⟩ : ∃ h2, h2 = h1 ++ [VO.lst ((List.range size).map nI)] ++ [.lst []] ++ [.lst []] := ⟨_, rfl⟩
  obtain ⟨τ, hτ⟩ : ∃ τ, τ = startT 10 [.ref n, nI size, nI most, nI taken] := ⟨_, rfl⟩
  have S0 : fm0 τ h = .nx (fmF n size most taken L rows none none) h2 := by
    have A := (call_ok (b := K66.m_law_rows) (g := aCons (eVar 0) (aCons (eVar 1) (aCons (eVar 2) aNil))) (τ := τ) (h := h) (ts := [.ref n, nI size, nI most]) (by rw [hτ]; rfl)).trans e1
    have B : eH (mRg1 (eVar 1)) τ h1 = .ok (.ref L) (h1 ++ [.lst ((List.range size).map nI)]) := by
      unfold eH mRg1
      rw [show eVar 1 τ h1 = .ok (nI size) h1 by rw [hτ]; rfl]
      simp only
      rw [if_pos ⟨by omega, by omega⟩, Int.toNat_natCast, range_nI]
      simp only [hL]
    have C : ∀ k : VH, eH (aLim aNil) τ k = .ok (.ref k.length) (k ++ [.lst []]) := fun k => rfl
    have E : eTup (aCons (eCall K66.m_law_rows (aCons (eVar 0) (aCons (eVar 1) (aCons (eVar 2) aNil)))) (aCons (eH (mRg1 (eVar 1))) (aCons (eH (aLim aNil)) (aCons (eH (aLim aNil)) aNil)))) τ h = .ok (.tup [restsT rows, .ref L, .ref (L + 1), .ref (L + 2)]) h2 := by
      unfold eTup
      rw [cons_ok A (cons_ok B (cons_ok (C _) (cons_ok (C _) (rfl : aNil τ _ = .ok [] _))))]
      rw [eh2, hL]
      simp
    show sAsg _ _ τ h = _
    unfold sAsg
    rw [E, hτ]
    rfl
  have J0 : FmI n size L h2 := by
    refine ⟨by rw [eh2]; exact ((I1.app (nI_low _)).app fun m => rfl).app fun m => rfl, List.range size, [], [], List.Perm.refl _, ?_, ?_, ?_⟩ <;> rw [eh2, hL] <;> simp
  have sm2 : Same n h h2 := by rw [eh2]; exact sm1.trans ((Same.app.trans .app).trans .app)
  obtain ⟨K, o, e, lt, io⟩ := tk_ok (k := ((taken : Nat) : Int) + 1) J0.iv (by omega) (by omega)
  have A := (op_ok (b := TL.bAdd) (rfl : eVar 3 (fmF n size most taken L rows none none) h2 = .ok (nI taken) h2) (rfl : eK (.int 1) _ h2 = .ok (.int 1) h2)).trans (hAdd _ _ h2)
  have mi : fmM (fmF n size most taken L rows none none) h2 = .ok (fun _ => some (rangeT 0 K)) (h2.set n o) :=
    rngk (cons_ok ((call_ok (b := m_law_take) (cons_ok (rfl : eVar 0 (fmF n size most taken L rows none none) h2 = .ok (.ref n) h2) (cons_ok A (rfl : aNil _ h2 = .ok [] h2)))).trans e) (rfl : aNil _ (h2.set n o) = .ok [] (h2.set n o))) (by omega)
  have J1 : FmI n size L (h2.set n o) := by
    obtain ⟨I2, ls, a, b, pm, qL, qA, qB⟩ := J0
    exact ⟨I2.set io, ls, a, b, pm, by rw [List.getElem?_set_ne (by omega)]; exact qL, by rw [List.getElem?_set_ne (by omega)]; exact qA, by rw [List.getElem?_set_ne (by omega)]; exact qB⟩
  obtain ⟨τ', h', z, J, sm, b8, b9, rfl⟩ := sFor_inv (mi := fmM) (g := mgName 8) (body := fmB) (τ := fmF n size most taken L rows none none) (h := h2) (h1 := h2.set n o) (rd := fun _ => some (rangeT 0 K)) (ts := rangeT 0 K)
    (fun i τ h' => FmI n size L h' ∧ Same n h h' ∧ ∃ b8 b9, τ = fmF n size most taken L rows b8 b9) mi ⟨J1, sm2.trans .draw, none, none, rfl⟩ (fun _ _ _ _ => rfl) (fun i hi τ h' Q => by
      obtain ⟨J, sm, b8, b9, rfl⟩ := Q
      obtain ⟨c9, h3, e3, J3, sm3⟩ := fmB_ok (most := most) (taken := taken) (rows := rows) J (by omega) s1 (by rw [hL]; exact sm1.1) sm (some (rangeT 0 K)[i]) b9
      exact ⟨fmF n size most taken L rows (some (rangeT 0 K)[i]) b9, h', _, h3, rfl, .inl e3, J3, sm3, _, _, rfl⟩)
  obtain ⟨I', ls, a, b, pm, qL, qA, qB⟩ := J
  have so : ∀ (i A : Nat) (xs : List Nat), eVar i (fmF n size most taken L rows b8 b9) h' = .ok (.ref A) h' → h'[A]? = some (.lst (xs.map nI)) → eCall fTuple (aCons (eL (mCall fSorted (aCons (eVar i) aNil))) aNil) (fmF n size most taken L rows b8 b9) h' = .ok (lineT (srt xs)) h' := fun i A xs q1 q2 => by
    have C : mCall fSorted (aCons (eVar i) aNil) (fmF n size most taken L rows b8 b9) h' = .ok ((srt xs).map nI) h' := by
      unfold mCall
      rw [cons_ok q1 (rfl : aNil _ h' = .ok [] h')]
      exact sorted_ints (by simp [TL.listOf, q2])
    exact tupLine (eL_ok C)
  have nd : (a ++ (b ++ ls)).Nodup := pm.nodup_iff.mpr List.nodup_range
  have lt' : ∀ c, c ∈ a ++ (b ++ ls) → c < size := fun c hc => List.mem_range.mp (pm.mem_iff.mp hc)
  have nb := (List.nodup_append.mp nd).2.1
  refine ⟨rows, srt a, srt b, h', ?_, I', R, w5, ⟨srt_asc (List.nodup_append.mp nd).1, fun c hc => lt' c (List.mem_append_left _ (srt_mem.mp hc)), fun _ _ z => by cases z⟩, ⟨srt_asc (List.nodup_append.mp nb).1, fun c hc => lt' c (List.mem_append_right _ (List.mem_append_left _ (srt_mem.mp hc))), fun c hc z => ?_⟩, sm, fewR⟩
  · show defM 10 4 K66.s_law_frame _ _ = _
    rw [fm_eq]
    refine defM_rt rfl ?_
    rw [← hτ]
    refine (seq_nx S0).trans ((seq_nx z).trans (ret_ok ?_))
    unfold eTup
    rw [cons_ok (rfl : eVar 1 _ h' = .ok (nI size) h') (cons_ok (rfl : eVar 4 _ h' = .ok (restsT rows) h') (cons_ok (so 6 (L + 1) a rfl qA) (cons_ok (so 7 (L + 2) b rfl qB) (rfl : aNil _ h' = .ok [] h'))))]
    rfl
  · exact (List.nodup_append.mp nd).2.2 c (srt_mem.mp z) c (List.mem_append_left _ (srt_mem.mp hc)) rfl
theorem frame_ok {h : VH} (I : Iv n h) (s0 : 0 < size) (s1 : size ≤ 30) (m1 : most ≤ 30) (t1 : taken ≤ 30) :
    ∃ (rows : List (List Nat)) (mine its : List Nat) (h' : VH), K66.m_law_frame [.ref n, nI size, nI most, nI taken] h = .ok (frameT size rows mine its) h' ∧ Iv n h' ∧ Rows size rows ∧ (∀ l ∈ rows, l.length ≤ 5) ∧ Hand size mine [] ∧ Hand size its mine ∧ Same n h h' := by
  obtain ⟨rows, mine, its, h', e, I', R, w, M, H, s, _⟩ := frame_few (most := most) (taken := taken) I s0 s1 m1 t1
  exact ⟨rows, mine, its, h', e, I', R, w, M, H, s⟩
end
end BG
namespace BG
open PySem L2 TL K58 K13 BD
theorem join_sp : ∀ (ws : List Str), ws ≠ [] → Txt.join "," (ws.map fun w => ((" " : String) : Str) ++ w) = ((" " : String) : Str) ++ Txt.join ", " ws := by
  intro ws ne
  rw [join_eq, join_eq]
  have cs : ((", " : String) : Str) = ((("," : String) : Str)) ++ ((" " : String) : Str) := by decide +kernel
  induction ws with
  | nil => exact absurd rfl ne
  | cons x ws ih =>
    cases ws with
    | nil => rfl
    | cons y ws =>
      have e1 : Str.join "," ((x :: y :: ws).map fun w => ((" " : String) : Str) ++ w) = ((" " : String) : Str) ++ x ++ ((("," : String) : Str)) ++ Str.join "," ((y :: ws).map fun w => ((" " : String) : Str) ++ w) := rfl
      have e2 : Str.join ", " (x :: y :: ws) = x ++ ((", " : String) : Str) ++ Str.join ", " (y :: ws) := rfl
      rw [e1, e2, ih (by simp), cs]
      simp only [app_assoc]
theorem tail_join {rows : List (List Nat)} (ne : rows ≠ []) : tailS rows = Txt.join "," (rows.map fun l => ((" " : String) : Str) ++ wordsS l) := by
  unfold tailS
  rw [if_neg ne]
  unfold linesS
  have := join_sp (rows.map wordsS) (fun z => ne (List.map_eq_nil_iff.mp z))
  rw [List.map_map] at this
  exact this.symm
theorem tail_join' (rows : List (List Nat)) : Txt.join "," (rows.map fun l => ((" " : String) : Str) ++ wordsS l) = tailS rows := by
  cases rows with
  | nil => decide +kernel
  | cons l rows => exact (tail_join (by simp)).symm
theorem part_len {size : Nat} {l : List Nat} (s1 : size ≤ 30) (L : Line size l) : (((" " : String) : Str) ++ wordsS l).length ≤ 91 := by
  have := words_len s1 L
  have e : ((" " : String) : Str).length = 1 := by decide
  rw [TL.len_app, e]
  omega
section
variable {size : Nat} {rows : List (List Nat)}
def txE : ME := (eOp TL.bAdd (eK (.str " ")) (eMt "str" mJoin (eK (.str " ")) (aCons (eL (mLc (iSeqC (eVar 3)) [4] (mgName 4) bYes (eCall fStr (aCons (eVar 4) aNil)))) aNil)))
theorem txE_ok (s1 : size ≤ 30) {l : List Nat} (L : Line size l) (a b c d : Option T) (h : VH) : txE [a, b, c, some (lineT l), d] h = .ok (.str (((" " : String) : Str) ++ wordsS l)) h := by
  have z := mLc_map (mi := iSeqC (eVar 3)) (ws := [4]) (g := mgName 4) (e := eCall fStr (aCons (eVar 4) aNil)) (τ := [a, b, c, some (lineT l), d]) (h := h) (rd := fun h => seqS h (lineT l)) (ts := l.map fun c => T.int (c : Nat)) rfl rfl (by rw [List.length_map]; have := L.len; omega) (fun t => match t with | .int i => .str (numS i.toNat) | t => t) (fun t ht => by
    obtain ⟨n, hn, rfl⟩ := List.mem_map.mp ht
    have lt := L.lt n hn
    exact ⟨[a, b, c, some (lineT l), some (.int (n : Nat))], rfl, (call_ok (ts := [.int (n : Nat)]) rfl).trans (fStr_num (by omega) h)⟩)
  rw [List.map_map] at z
  have z2 : (l.map ((fun t => match t with | .int i => T.str (numS i.toNat) | t => t) ∘ fun c : Nat => T.int (c : Nat))) = (l.map numS).map T.str := by rw [List.map_map]; rfl
  rw [z2] at z
  have J := hJoin (ys := l.map numS) (a := " ") (f := eK (.str " ")) rfl (eL_ok z) (by
    have h1 := words_sum s1 L
    have h2 := L.len
    have e : ((" " : String) : Str).length = 1 := by decide
    rw [List.length_map, e]
    omega)
  refine (op_ok (b := TL.bAdd) (rfl : eK (.str " ") _ h = .ok (.str " ") h) J).trans (hAppS ?_)
  have := part_len s1 L
  rw [TL.len_app] at this
  unfold wordsS at this
  omega
theorem text_ok (R : Rows size rows) (h : VH) : K66.m_law_text [nI size, restsT rows] h = .ok (.str (boardS size rows)) h := by
  have z := mLc_map (mi := iSeqC (eVar 1)) (ws := [3]) (g := mgName 3) (e := txE) (τ := startT 5 [nI size, restsT rows]) (h := h) (rd := fun h => seqS h (restsT rows)) (ts := rows.map lineT) rfl rfl (by rw [List.length_map]; have := R.len; omega) (fun t => match txE [none, none, none, some t, none] h with | .ok u _ => u | _ => .non) (fun t ht => by
    obtain ⟨l, hl, rfl⟩ := List.mem_map.mp ht
    refine ⟨[some (nI size), some (restsT rows), none, some (lineT l), none], rfl, ?_⟩
    show _ = Res.ok (match txE [none, none, none, some (lineT l), none] h with | .ok u _ => u | _ => T.non) h
    rw [txE_ok R.s1 (R.line l hl), txE_ok R.s1 (R.line l hl)])
  have e : (rows.map lineT).map (fun t => match txE [none, none, none, some t, none] h with | .ok u _ => u | _ => T.non) = (rows.map fun l => ((" " : String) : Str) ++ wordsS l).map T.str := by
    rw [List.map_map, List.map_map]
    refine List.map_congr_left fun l hl => ?_
    show (match txE [none, none, none, some (lineT l), none] h with | .ok u _ => u | _ => T.non) = _
    rw [txE_ok R.s1 (R.line l hl)]
    rfl
  rw [e] at z
  obtain ⟨τ, hτ⟩ : ∃ τ, τ = [some (nI size), some (restsT rows), some (T.lst ((rows.map fun l => ((" " : String) : Str) ++ wordsS l).map T.str)), none, none] := ⟨_, rfl⟩
  have S1 : sSet 2 (eL (mLc (iSeqC (eVar 1)) [3] (mgName 3) bYes txE)) (startT 5 [nI size, restsT rows]) h = .nx τ h := by
    rw [hτ]
    exact (set_ok (i := 2) (eL_ok z)).trans rfl
  have sm : ((rows.map fun l => ((" " : String) : Str) ++ wordsS l).map (·.length)).sum ≤ 2730 := by
    have := sum_le (f := fun x : Str => x.length) (b := 91) (l := rows.map fun l => ((" " : String) : Str) ++ wordsS l) fun x hx => by
      obtain ⟨l, hl, rfl⟩ := List.mem_map.mp hx
      exact part_len R.s1 (R.line l hl)
    rw [List.length_map] at this
    have := R.len
    omega
  have c1 : ((":" : String) : Str).length = 1 := by decide
  have c2 : (("," : String) : Str).length = 1 := by decide
  have J := hJoin (ys := rows.map fun l => ((" " : String) : Str) ++ wordsS l) (a := ",") (f := eK (.str ",")) (g := eVar 2) (τ := τ) (h := h) rfl (by rw [hτ]; rfl) (by
    rw [List.length_map, c2]
    have := R.len
    omega)
  have jl := join_len "," (rows.map fun l => ((" " : String) : Str) ++ wordsS l)
  rw [List.length_map, c2] at jl
  have nn := num_len R.s1
  have rl := R.len
  have A := (op_ok (b := TL.bAdd) ((call_ok (b := fStr) (cons_ok (by rw [hτ]; rfl : eVar 0 τ h = .ok (nI size) h) (rfl : aNil τ h = .ok [] h))).trans (fStr_num R.s1 h)) (rfl : eK (.str ":") τ h = .ok (.str ":") h)).trans (hAppS (by omega))
  have B := (op_ok (b := TL.bAdd) A J).trans (hAppS (by rw [TL.len_app]; omega))
  rw [tail_join', ← board_eq] at B
  have D : K66.m_law_text = defM 5 2 (sSeq (sSet 2 (eL (mLc (iSeqC (eVar 1)) [3] (mgName 3) bYes txE))) (sRet (eOp TL.bAdd (eOp TL.bAdd (eCall fStr (aCons (eVar 0) aNil)) (eK (.str ":"))) (eMt "str" mJoin (eK (.str ",")) (aCons (eVar 2) aNil))))) := rfl
  rw [D]
  exact defM_rt rfl ((seq_nx S1).trans (ret_ok B))
variable {mine its : List Nat}
theorem made_ok (R : Rows size rows) (M : Hand size mine []) (I : Hand size its mine) {h : VH} (hl : h.all (VO.lowR h.length) = true) : K66.m_law_made [frameT size rows mine its] h = .ok (standT size rows mine its) h := by
  have W := (call_ok (b := K66.m_law_text) (g := aCons (eOp TL.bIx (eVar 0) (eK (.int 0))) (aCons (eOp TL.bIx (eVar 0) (eK (.int 1))) aNil)) (τ := startT 1 [frameT size rows mine its]) (h := h) (ts := [nI size, restsT rows]) rfl).trans (text_ok R h)
  have B := (call_ok (b := cutM (makeM 0 m_Board___init__)) (cons_ok W (rfl : aNil _ h = .ok [] h))).trans (make_ok R hl)
  have P := (call_ok (b := cutM (makeM 1 m_Stand___init__)) (cons_ok B (cons_ok (rfl : eOp TL.bIx (eVar 0) (eK (.int 2)) (startT 1 [frameT size rows mine its]) h = .ok (lineT mine) h) (cons_ok (rfl : eOp TL.bIx (eVar 0) (eK (.int 3)) (startT 1 [frameT size rows mine its]) h = .ok (lineT its) h) (rfl : aNil _ h = .ok [] h))))).trans (stand_ok M I hl)
  exact defM_rt rfl (ret_ok P)
theorem said_ok (R : Rows size rows) (h : VH) : K66.m_law_said [frameT size rows mine its] h = .ok (.tup [.str (boardS size rows), lineT mine, lineT its]) h := by
  have W := (call_ok (b := K66.m_law_text) (g := aCons (eOp TL.bIx (eVar 0) (eK (.int 0))) (aCons (eOp TL.bIx (eVar 0) (eK (.int 1))) aNil)) (τ := startT 1 [frameT size rows mine its]) (h := h) (ts := [nI size, restsT rows]) rfl).trans (text_ok R h)
  refine defM_rt rfl (ret_ok ?_)
  unfold eTup
  rw [cons_ok W (cons_ok (rfl : eOp TL.bIx (eVar 0) (eK (.int 2)) (startT 1 [frameT size rows mine its]) h = .ok (lineT mine) h) (cons_ok (rfl : eOp TL.bIx (eVar 0) (eK (.int 3)) (startT 1 [frameT size rows mine its]) h = .ok (lineT its) h) (rfl : aNil _ h = .ok [] h)))]
  rfl
end
end BG
namespace BG
open PySem L2 TL K58 K13 BD
theorem iseq_ok {f : ME} {τ : TS_} {h h1 : VH} {t : T} (e : f τ h = .ok t h1) (s : walkable h1 t = true) : iSeqC f τ h = .ok (fun h => seqS h t) h1 := by
  unfold iSeqC
  simp only [e, s, if_true]
theorem ntold_ok (h : VH) : ∀ n : Nat, n ≤ 30 → K66.m_number_told [.str (numS n)] h = .ok (nI n) h
  | 0, _ => by with_unfolding_all rfl
  | 1, _ => by with_unfolding_all rfl
  | 2, _ => by with_unfolding_all rfl
  | 3, _ => by with_unfolding_all rfl
  | 4, _ => by with_unfolding_all rfl
  | 5, _ => by with_unfolding_all rfl
  | 6, _ => by with_unfolding_all rfl
  | 7, _ => by with_unfolding_all rfl
  | 8, _ => by with_unfolding_all rfl
  | 9, _ => by with_unfolding_all rfl
  | 10, _ => by with_unfolding_all rfl
  | 11, _ => by with_unfolding_all rfl
  | 12, _ => by with_unfolding_all rfl
  | 13, _ => by with_unfolding_all rfl
  | 14, _ => by with_unfolding_all rfl
  | 15, _ => by with_unfolding_all rfl
  | 16, _ => by with_unfolding_all rfl
  | 17, _ => by with_unfolding_all rfl
  | 18, _ => by with_unfolding_all rfl
  | 19, _ => by with_unfolding_all rfl
  | 20, _ => by with_unfolding_all rfl
  | 21, _ => by with_unfolding_all rfl
  | 22, _ => by with_unfolding_all rfl
  | 23, _ => by with_unfolding_all rfl
  | 24, _ => by with_unfolding_all rfl
  | 25, _ => by with_unfolding_all rfl
  | 26, _ => by with_unfolding_all rfl
  | 27, _ => by with_unfolding_all rfl
  | 28, _ => by with_unfolding_all rfl
  | 29, _ => by with_unfolding_all rfl
  | 30, _ => by with_unfolding_all rfl
  | n + 31, q => absurd q (by omega)
theorem zip_mem' {ts : List T} {m : Nat} {t : T} : t ∈ zipT (ts.take m) (ts.drop 1) → ∃ (i : Nat) (a b : T), ts[i]? = some a ∧ ts[i + 1]? = some b ∧ t = .tup [a, b] := by
  intro ht
  unfold zipT at ht
  obtain ⟨i, hi, e⟩ := List.getElem_of_mem ht
  simp only [List.length_zipWith, List.length_drop, List.length_take] at hi
  refine ⟨i, ts[i], ts[i + 1], List.getElem?_eq_getElem (by omega), List.getElem?_eq_getElem (by omega), ?_⟩
  rw [← e, List.getElem_zipWith, List.getElem_drop, List.getElem_take]
  simp only [Nat.add_comm 1 i]
theorem cut_some (ts : List T) (hi : Option Int) : ∃ m, cutT ts none hi = ts.take m := ⟨_, rfl⟩
theorem cut_from (ts : List T) : cutT ts (some 1) none = ts.drop 1 := by
  have h1 : HT.sIx ts.length 0 (some 1) = min 1 ts.length := HT.sIx_nat ts.length 0 1
  have h2 : HT.sIx ts.length ts.length none = ts.length := rfl
  unfold cutT
  rw [h1, h2]
  rcases Nat.lt_or_ge ts.length 1 with q | q
  · have : ts = [] := List.length_eq_zero_iff.mp (by omega)
    subst this
    rfl
  · rw [Nat.min_eq_left q]
    exact List.take_of_length_le (by rw [List.length_drop]; omega)
def risI : MI := (iZipAM (aCons (eSl (eVar 0) oNo (oSome (eNeg (eK (.int 1))))) (aCons (eSl (eVar 0) (oSome (eK (.int 1))) oNo) aNil)))
theorem rising_ok {t : T} {ts : List T} {h : VH} (k : t = .lst ts ∨ t = .tup ts) (hl : ts.length ≤ 1000) (hp : ∀ (i : Nat) (a b : T), ts[i]? = some a → ts[i + 1]? = some b → TL.bLt a b h = .ok (.bl true) h) : K66.m_is_rising [t] h = .ok (.bl true) h := by
  obtain ⟨m, em⟩ := cut_some ts (some (-1))
  obtain ⟨rd, mi, hrd⟩ : ∃ rd : VH → Option (List T), risI (startT 3 [t]) h = .ok rd h ∧ rd h = some (zipT (ts.take m) (ts.drop 1)) := by
    rcases k with rfl | rfl
    · have s1 : eSl (eVar 0) oNo (oSome (eNeg (eK (.int 1)))) (startT 3 [.lst ts]) h = .ok (.lst (ts.take m)) h := by rw [← em]; rfl
      have s2 : eSl (eVar 0) (oSome (eK (.int 1))) oNo (startT 3 [.lst ts]) h = .ok (.lst (ts.drop 1)) h := by rw [← cut_from]; rfl
      refine ⟨fun k => match TL.listOf k (.lst (ts.take m)), TL.listOf k (.lst (ts.drop 1)) with | some ts, some us => some (zipT ts us) | _, _ => none, ?_, rfl⟩
      unfold risI iZipAM
      rw [cons_ok s1 (cons_ok s2 (rfl : aNil _ h = .ok [] h))]
      rfl
    · have s1 : eSl (eVar 0) oNo (oSome (eNeg (eK (.int 1)))) (startT 3 [.tup ts]) h = .ok (.tup (ts.take m)) h := by rw [← em]; rfl
      have s2 : eSl (eVar 0) (oSome (eK (.int 1))) oNo (startT 3 [.tup ts]) h = .ok (.tup (ts.drop 1)) h := by rw [← cut_from]; rfl
      refine ⟨fun _ => some (zipT (ts.take m) (ts.drop 1)), ?_, rfl⟩
      unfold risI iZipAM
      rw [cons_ok s1 (cons_ok s2 (rfl : aNil _ h = .ok [] h))]
      rfl
  have lz : (zipT (ts.take m) (ts.drop 1)).length ≤ 1000 := by
    unfold zipT
    rw [List.length_zipWith, List.length_drop]
    omega
  have z := mLc_map (mi := risI) (ws := [1, 2]) (g := mgTup 2 (mgsCons (mgName 1) (mgsCons (mgName 2) mgsNil))) (e := eOp TL.bLt (eVar 1) (eVar 2)) (τ := startT 3 [t]) (h := h) (ts := zipT (ts.take m) (ts.drop 1)) mi hrd (by omega) (fun _ => .bl true) (fun u hu => by
    obtain ⟨i, a, b, ha, hb, rfl⟩ := zip_mem' hu
    exact ⟨[some t, some a, some b], rfl, (op_ok (b := TL.bLt) (rfl : eVar 1 _ h = .ok a h) (rfl : eVar 2 _ h = .ok b h)).trans (hp i a b ha hb)⟩)
  exact defM_rt rfl (ret_ok ((call_ok (b := fAll) (cons_ok (eL_ok z) (rfl : aNil _ h = .ok [] h))).trans (allT _ h)))
theorem rising_ints {t : T} {l : List Nat} {h : VH} (k : t = .lst (l.map nI) ∨ t = .tup (l.map nI)) (hl : l.length ≤ 1000) (asc : l.Pairwise (· < ·)) : K66.m_is_rising [t] h = .ok (.bl true) h :=
  rising_ok k (by rw [List.length_map]; exact hl) fun i a b ha hb => by
    rw [List.getElem?_map, Option.map_eq_some_iff] at ha hb
    obtain ⟨c, hc, rfl⟩ := ha
    obtain ⟨d, hd, rfl⟩ := hb
    obtain ⟨q1, e1⟩ := List.getElem?_eq_some_iff.mp hc
    obtain ⟨q2, e2⟩ := List.getElem?_eq_some_iff.mp hd
    have := List.pairwise_iff_getElem.mp asc i (i + 1) q1 q2 (by omega)
    rw [e1, e2] at this
    rw [hLt, decide_eq_true (by omega)]
theorem lt_lines {a b : List Nat} (lt : W.dataLt (lnD a) (lnD b) = true) (h : VH) : TL.bLt (lineT a) (lineT b) h = .ok (.bl true) h := by
  have e : TL.bLt (lineT a) (lineT b) h = bOrdD (fun d e => PySem.W.dataLt d e) (lineT a) (lineT b) h := rfl
  rw [e]
  unfold bOrdD
  rw [line_dat a h 9, line_dat b h 9]
  have al : PySem.W.alike (lnD a) (lnD b) = true := by
    show PySem.W.alike (.tuple _) (.tuple _) = true
    simp only [PySem.W.alike]
    have e : ∀ l : List Nat, (l.map fun c : Nat => PyData.int (c : Nat)) = (l.map fun c : Nat => (c : Int)).map PyData.int := fun l => by rw [List.map_map]; rfl
    rw [e, e]
    exact PySem.W.alike_ints _ _
  simp only [al, lt]
  rfl
section
variable {size : Nat} {rows : List (List Nat)}
theorem rising_rows (R : Rows size rows) (h : VH) : K66.m_is_rising [rowsLT rows] h = .ok (.bl true) h :=
  rising_ok (.inl rfl) (by rw [List.length_map]; have := R.len; omega) fun i a b ha hb => by
    rw [List.getElem?_map, Option.map_eq_some_iff] at ha hb
    obtain ⟨c, hc, rfl⟩ := ha
    obtain ⟨d, hd, rfl⟩ := hb
    obtain ⟨q1, e1⟩ := List.getElem?_eq_some_iff.mp hc
    obtain ⟨q2, e2⟩ := List.getElem?_eq_some_iff.mp hd
    have := List.pairwise_iff_getElem.mp R.asc i (i + 1) q1 q2 (by omega)
    rw [e1, e2] at this
    exact lt_lines this h
theorem sp_list (w : Str) : (((" " : String) : Str) ++ w).cps.toList = 32 :: w.cps.toList ∧ (((" " : String) : Str) ++ w).length = w.length + 1 := by
  have e : tl (" " : String) = [32] := by decide +kernel
  have e2 : ((" " : String) : Str).length = 1 := by decide
  refine ⟨?_, by rw [TL.len_app, e2]; omega⟩
  have := tl_append ((" " : String) : Str) w
  rw [e] at this
  exact this
theorem cut1 (w : Str) : cutS (((" " : String) : Str) ++ w) none (some 1) = ((" " : String) : Str) := by
  obtain ⟨h1, h2⟩ := sp_list w
  have a : HT.sIx (w.length + 1) (w.length + 1) (some 1) = 1 := (HT.sIx_nat (w.length + 1) (w.length + 1) 1).trans (Nat.min_eq_left (by omega))
  have b : HT.sIx (w.length + 1) 0 none = 0 := rfl
  unfold cutS
  rw [h1, h2, a, b]
  show (⟨#[32]⟩ : Str) = _
  decide +kernel
theorem cut2 (w : Str) : cutS (((" " : String) : Str) ++ w) (some 1) none = w := by
  obtain ⟨h1, h2⟩ := sp_list w
  have a : HT.sIx (w.length + 1) 0 (some 1) = 1 := (HT.sIx_nat (w.length + 1) 0 1).trans (Nat.min_eq_left (by omega))
  have b : HT.sIx (w.length + 1) (w.length + 1) none = w.length + 1 := rfl
  have c : w.cps.toList.length = w.length := by unfold Str.length; rw [Array.length_toList]
  unfold cutS
  rw [h1, h2, a, b]
  have d : ((32 :: w.cps.toList).drop 1).take (w.length + 1 - 1) = w.cps.toList := List.take_of_length_le (by rw [List.drop_succ_cons, List.drop_zero, c]; omega)
  rw [d]
end
end BG
namespace BG
open PySem L2 TL K58 K13 BD
section
variable {size : Nat} {rows : List (List Nat)} {mine its : List Nat}
theorem ltold_ok (s1 : size ≤ 30) {l : List Nat} (L : Line size l) (h : VH) : K66.m_line_told [.str (((" " : String) : Str) ++ wordsS l), nI size] h = .ok (lineT l) h := by
  obtain ⟨w, hw⟩ : ∃ w, w = wordsS l := ⟨_, rfl⟩
  have wl := words_len s1 L
  have ll := L.len
  rw [← hw] at wl
  obtain ⟨p, hp⟩ : ∃ p, p = ((" " : String) : Str) ++ w := ⟨_, rfl⟩
  obtain ⟨τ, hτ⟩ : ∃ τ, τ = startT 5 [T.str p, nI size] := ⟨_, rfl⟩
  have v0 : eVar 0 τ h = .ok (.str p) h := by rw [hτ]; rfl
  have nil : aNil τ h = .ok [] h := rfl
  have X1 : eSl (eVar 0) oNo (oSome (eK (.int 1))) τ h = .ok (.str (((" " : String) : Str))) h := by
    refine (show _ = Res.ok (T.str (cutS p none (some 1))) h by rw [hτ]; rfl).trans ?_
    rw [hp, cut1]
  have X2 : eSl (eVar 0) (oSome (eK (.int 1))) oNo τ h = .ok (.str w) h := by
    refine (show _ = Res.ok (T.str (cutS p (some 1) none)) h by rw [hτ]; rfl).trans ?_
    rw [hp, cut2]
  have C1 : bTest (eOp TL.bNe (eSl (eVar 0) oNo (oSome (eK (.int 1)))) (eK (.str " "))) τ h = .ok false h := by
    refine test_ok ((op_ok (b := TL.bNe) X1 (rfl : eK (.str " ") τ h = .ok (.str " ") h)).trans ?_)
    with_unfolding_all rfl
  have S1 : sIf (bTest (eOp TL.bNe (eSl (eVar 0) oNo (oSome (eK (.int 1)))) (eK (.str " ")))) (sRet (eK .non)) sNil τ h = .nx τ h := (if_f C1).trans rfl
  have sp : eMt "str" mSplit (eSl (eVar 0) (oSome (eK (.int 1))) oNo) (aCons (eK (.str " ")) aNil) τ h = .ok (.lst ((l.map numS).map T.str)) h := by
    refine (hSplit (v := " ") (by decide +kernel) (by omega) X2 (rfl : eK (.str " ") τ h = .ok (.str " ") h)).trans ?_
    rw [hw, split_words s1 L]
  obtain ⟨τ2, hτ2⟩ : ∃ τ2, τ2 = [some (T.str p), some (nI size), some (T.lst (l.map nI)), none, none] := ⟨_, rfl⟩
  have S2 : sSet 2 (eL (mLc (iSeqC (eMt "str" mSplit (eSl (eVar 0) (oSome (eK (.int 1))) oNo) (aCons (eK (.str " ")) aNil))) [3] (mgName 3) bYes (eCall K66.m_number_told (aCons (eVar 3) aNil)))) τ h = .nx τ2 h := by
    have z := mLc_map (mi := iSeqC (eMt "str" mSplit (eSl (eVar 0) (oSome (eK (.int 1))) oNo) (aCons (eK (.str " ")) aNil))) (ws := [3]) (g := mgName 3) (e := eCall K66.m_number_told (aCons (eVar 3) aNil)) (τ := τ) (h := h) (ts := (l.map numS).map T.str) (iseq_ok sp rfl) rfl (by rw [List.length_map, List.length_map]; omega)
      (fun t => match K66.m_number_told [t] h with | .ok u _ => u | _ => .non) (fun t ht => by
        obtain ⟨x, hx, rfl⟩ := List.mem_map.mp ht
        obtain ⟨c, hc, rfl⟩ := List.mem_map.mp hx
        have lt := L.lt c hc
        refine ⟨(wipeT τ [3]).set 3 (some (.str (numS c))), rfl, ?_⟩
        refine (call_ok (ts := [.str (numS c)]) (by rw [hτ]; rfl)).trans ?_
        rw [ntold_ok h c (by omega)])
    have e : ((l.map numS).map T.str).map (fun t => match K66.m_number_told [t] h with | .ok u _ => u | _ => T.non) = l.map nI := by
      rw [List.map_map, List.map_map]
      refine List.map_congr_left fun c hc => ?_
      have lt := L.lt c hc
      show (match K66.m_number_told [.str (numS c)] h with | .ok u _ => u | _ => T.non) = _
      rw [ntold_ok h c (by omega)]
    rw [e] at z
    refine (set_ok (i := 2) (eL_ok z)).trans ?_
    rw [hτ, hτ2]
    rfl
  have A : eCall fAll (aCons (eL (mLc (iSeqC (eVar 2)) [4] (mgName 4) bYes (eAnd (eOp TL.bIsn (eVar 4) (eK .non)) (eOp TL.bLt (eVar 4) (eVar 1))))) aNil) τ2 h = .ok (.bl true) h := by
    have z := mLc_map (mi := iSeqC (eVar 2)) (ws := [4]) (g := mgName 4) (e := eAnd (eOp TL.bIsn (eVar 4) (eK .non)) (eOp TL.bLt (eVar 4) (eVar 1))) (τ := τ2) (h := h) (ts := l.map nI) (iseq_ok (t := .lst (l.map nI)) (by rw [hτ2]; rfl) rfl) rfl (by rw [List.length_map]; omega)
      (fun _ => .bl true) (fun t ht => by
        obtain ⟨c, hc, rfl⟩ := List.mem_map.mp ht
        have lt := L.lt c hc
        obtain ⟨τ3, hτ3⟩ : ∃ τ3, τ3 = (wipeT τ2 [4]).set 4 (some (nI c)) := ⟨_, rfl⟩
        refine ⟨τ3, by rw [hτ3]; rfl, ?_⟩
        have a : eOp TL.bIsn (eVar 4) (eK .non) τ3 h = .ok (.bl true) h := by rw [hτ3, hτ2]; rfl
        have b := (op_ok (b := TL.bLt) (by rw [hτ3, hτ2]; rfl : eVar 4 τ3 h = .ok (nI c) h) (by rw [hτ3, hτ2]; rfl : eVar 1 τ3 h = .ok (nI size) h)).trans (hLt _ _ h)
        rw [decide_eq_true (by omega)] at b
        exact hEand a fun _ => b)
    exact (call_ok (b := fAll) (cons_ok (eL_ok z) (rfl : aNil τ2 h = .ok [] h))).trans (allT _ h)
  have Ri := (call_ok (b := K66.m_is_rising) (g := aCons (eVar 2) aNil) (τ := τ2) (h := h) (ts := [.lst (l.map nI)]) (by rw [hτ2]; rfl)).trans (rising_ints (.inl rfl) (by omega) L.asc)
  have C3 := hOr (hNot (test_ok A)) fun _ => hNot (test_ok Ri)
  have S3 : sIf (TL.bOr (TL.bNot (bTest (eCall fAll (aCons (eL (mLc (iSeqC (eVar 2)) [4] (mgName 4) bYes (eAnd (eOp TL.bIsn (eVar 4) (eK .non)) (eOp TL.bLt (eVar 4) (eVar 1))))) aNil)))) (TL.bNot (bTest (eCall K66.m_is_rising (aCons (eVar 2) aNil))))) (sRet (eK .non)) sNil τ2 h = .nx τ2 h := (if_f C3).trans rfl
  have R4 : eCall fTuple (aCons (eVar 2) aNil) τ2 h = .ok (lineT l) h := by rw [hτ2]; rfl
  have D : K66.m_line_told = defM 5 2 K66.s_line_told := rfl
  rw [D, ← hw, ← hp]
  refine defM_rt rfl ?_
  rw [← hτ]
  exact (seq_nx S1).trans ((seq_nx S2).trans ((seq_nx S3).trans (ret_ok R4)))
theorem split_tail (R : Rows size rows) (ne : rows ≠ []) : Txt.split (tailS rows) "," = rows.map fun l => ((" " : String) : Str) ++ wordsS l := by
  rw [tail_join ne]
  refine split_join (y := ("," : String)) (s := 44) (S := []) (by decide +kernel) (by decide +kernel) (fun z => ne (List.map_eq_nil_iff.mp z)) fun p hp => ?_
  obtain ⟨l, hl, rfl⟩ := List.mem_map.mp hp
  intro z
  rw [tl_append, List.mem_append] at z
  have e : tl (" " : String) = [32] := by decide +kernel
  rw [e] at z
  rcases z with z | z
  · have := List.mem_singleton.mp z; omega
  · have := words_mem R.s1 (R.line l hl) z; omega
theorem none_in (h : VH) : TL.bIn .non (rowsLT rows) h = .ok (.bl false) h := by
  have e1 : T.dat h 11 (rowsLT rows) = some (.list (rows.map lnD)) := by
    unfold rowsLT
    rw [dat_lst, lines_dat rows h 9]
    rfl
  have e2 : T.dat h 10 .non = some .none := rfl
  have e3 : TL.bIn .non (rowsLT rows) h = (match T.dat h 10 .non, T.dat h 11 (rowsLT rows) with
    | some d, some (.list ds) => Res.ok (.bl (false != ds.any fun z => PyData.eqv z d)) h
    | some d, some (.tuple ds) => .ok (.bl (false != ds.any fun z => PyData.eqv z d)) h
    | _, _ => .bad) := rfl
  rw [e3, e1, e2]
  simp only
  have : ((rows.map lnD).any fun z => PyData.eqv z .none) = false := List.any_eq_false.mpr fun d hd => by
    obtain ⟨l, _, rfl⟩ := List.mem_map.mp hd
    simp [PyData.eqv]
  rw [this]
  rfl
theorem btold_ok (R : Rows size rows) (h : VH) : K66.m_board_told [.str (boardS size rows)] h = .ok (.tup [nI size, rowsLT rows]) h := by
  have s0 := R.s0
  have s1 := R.s1
  have rl := R.len
  have nl := num_len s1
  have tll : (tailS rows).length ≤ 2801 := by
    have := lines_len R
    unfold tailS
    split
    · exact (show (("" : String) : Str).length ≤ 2801 by decide)
    · have e : ((" " : String) : Str).length = 1 := by decide
      rw [TL.len_app, e]
      omega
  have bl : (boardS size rows).length ≤ 3000 := by
    have e : ((":" : String) : Str).length = 1 := by decide
    rw [board_eq, TL.len_app, TL.len_app, e]
    omega
  obtain ⟨b, hb⟩ : ∃ b, b = boardS size rows := ⟨_, rfl⟩
  obtain ⟨τ, hτ⟩ : ∃ τ, τ = startT 5 [T.str b] := ⟨_, rfl⟩
  have v0 : eVar 0 τ h = .ok (.str b) h := by rw [hτ]; rfl
  have T1 : bTest (eIsi (.b "str") (eVar 0)) τ h = .ok true h := by rw [hτ]; rfl
  have X1 : eMt "str" mSplit (eVar 0) (aCons (eK (.str ":")) aNil) τ h = .ok (.lst [.str (numS size), .str (tailS rows)]) h := by
    refine (hSplit (v := ":") (by decide +kernel) (by rw [hb]; omega) v0 (rfl : eK (.str ":") τ h = .ok (.str ":") h)).trans ?_
    rw [hb, split_board R]
    rfl
  obtain ⟨τ1, hτ1⟩ : ∃ τ1, τ1 = [some (T.str b), some (T.lst [.str (numS size), .str (tailS rows)]), none, none, none] := ⟨_, rfl⟩
  have S1 : sSet 1 (eIf (bTest (eIsi (.b "str") (eVar 0))) (eMt "str" mSplit (eVar 0) (aCons (eK (.str ":")) aNil)) (eL (aLim aNil))) τ h = .nx τ1 h := by
    refine (set_ok (i := 1) ((hIfT T1).trans X1)).trans ?_
    rw [hτ, hτ1]
    rfl
  have v1 : eVar 1 τ1 h = .ok (.lst [.str (numS size), .str (tailS rows)]) h := by rw [hτ1]; rfl
  have T2 : bTest (eOp TL.bEq (eCall fLen (aCons (eVar 1) aNil)) (eK (.int 2))) τ1 h = .ok true h := by
    have := test_ok ((op_ok (b := TL.bEq) (hLenL v1) (rfl : eK (.int 2) τ1 h = .ok (.int 2) h)).trans (hEq _ _ h))
    exact this
  have X2 : eCall K66.m_number_told (aCons (eOp TL.bIx (eVar 1) (eK (.int 0))) aNil) τ1 h = .ok (nI size) h := (call_ok (ts := [.str (numS size)]) (by rw [hτ1]; rfl)).trans (ntold_ok h size s1)
  obtain ⟨τ2, hτ2⟩ : ∃ τ2, τ2 = [some (T.str b), some (T.lst [.str (numS size), .str (tailS rows)]), some (nI size), none, none] := ⟨_, rfl⟩
  have S2 : sSet 2 (eIf (bTest (eOp TL.bEq (eCall fLen (aCons (eVar 1) aNil)) (eK (.int 2)))) (eCall K66.m_number_told (aCons (eOp TL.bIx (eVar 1) (eK (.int 0))) aNil)) (eK .non)) τ1 h = .nx τ2 h := by
    refine (set_ok (i := 2) ((hIfT T2).trans X2)).trans ?_
    rw [hτ1, hτ2]
    rfl
  have v2 : eVar 2 τ2 h = .ok (nI size) h := by rw [hτ2]; rfl
  have I2 : bTest (eOp TL.bIs (eVar 2) (eK .non)) τ2 h = .ok false h := by rw [hτ2]; rfl
  have C2 := hChain (τ := τ2) (h := h) (f := eK (.int 0)) (g := eVar 2) (k := eK (.int 30)) (x := .int 0) (y := nI size) (z := .int 30) rfl v2 (hLt _ _ h) rfl (hLe _ _ h)
  rw [decide_eq_true (by omega), decide_eq_true (by omega)] at C2
  have O2 := hOr I2 fun _ => hNot (test_ok C2)
  have S3 : sIf (TL.bOr (bTest (eOp TL.bIs (eVar 2) (eK .non))) (TL.bNot (bTest (eChain TL.bLt TL.bLe (eK (.int 0)) (eVar 2) (eK (.int 30)))))) (sRet (eK .non)) sNil τ2 h = .nx τ2 h := (if_f O2).trans rfl
  have i1 : eOp TL.bIx (eVar 1) (eK (.int 1)) τ2 h = .ok (.str (tailS rows)) h := by rw [hτ2]; rfl
  obtain ⟨τ3, hτ3⟩ : ∃ τ3, τ3 = [some (T.str b), some (T.lst [.str (numS size), .str (tailS rows)]), some (nI size), some (rowsLT rows), none] := ⟨_, rfl⟩
  have T4 := test_ok ((op_ok (b := TL.bNe) i1 (rfl : eK (.str "") τ2 h = .ok (.str "") h)).trans (TL.ne_strs _ _ h))
  have S4 : sSet 3 (eIf (bTest (eOp TL.bNe (eOp TL.bIx (eVar 1) (eK (.int 1))) (eK (.str "")))) (eL (mLc (iSeqC (eMt "str" mSplit (eOp TL.bIx (eVar 1) (eK (.int 1))) (aCons (eK (.str ",")) aNil))) [4] (mgName 4) bYes (eCall K66.m_line_told (aCons (eVar 4) (aCons (eVar 2) aNil))))) (eL (aLim aNil))) τ2 h = .nx τ3 h := by
    have V : eIf (bTest (eOp TL.bNe (eOp TL.bIx (eVar 1) (eK (.int 1))) (eK (.str "")))) (eL (mLc (iSeqC (eMt "str" mSplit (eOp TL.bIx (eVar 1) (eK (.int 1))) (aCons (eK (.str ",")) aNil))) [4] (mgName 4) bYes (eCall K66.m_line_told (aCons (eVar 4) (aCons (eVar 2) aNil))))) (eL (aLim aNil)) τ2 h = .ok (rowsLT rows) h := by
      by_cases ne : rows = []
      · have e : (tailS rows == (("" : String) : Str)) = true := by rw [ne]; decide +kernel
        rw [e] at T4
        refine (hIfF T4).trans ?_
        rw [ne]
        rfl
      · have e : (tailS rows == (("" : String) : Str)) = false := by
          have l1 : 0 < (tailS rows).length := by
            unfold tailS
            rw [if_neg ne, TL.len_app]
            have e : ((" " : String) : Str).length = 1 := by decide
            omega
          rw [W.beq_decide]
          refine decide_eq_false fun q => ?_
          rw [q] at l1
          exact absurd l1 (by decide)
        rw [e] at T4
        refine (hIfT T4).trans ?_
        have sp : eMt "str" mSplit (eOp TL.bIx (eVar 1) (eK (.int 1))) (aCons (eK (.str ",")) aNil) τ2 h = .ok (.lst ((rows.map fun l => ((" " : String) : Str) ++ wordsS l).map T.str)) h := by
          refine (hSplit (v := ",") (by decide +kernel) (by omega) i1 (rfl : eK (.str ",") τ2 h = .ok (.str ",") h)).trans ?_
          rw [split_tail R ne]
        have z := mLc_map (mi := iSeqC (eMt "str" mSplit (eOp TL.bIx (eVar 1) (eK (.int 1))) (aCons (eK (.str ",")) aNil))) (ws := [4]) (g := mgName 4) (e := eCall K66.m_line_told (aCons (eVar 4) (aCons (eVar 2) aNil))) (τ := τ2) (h := h) (ts := (rows.map fun l => ((" " : String) : Str) ++ wordsS l).map T.str) (iseq_ok sp rfl) rfl (by rw [List.length_map, List.length_map]; omega)
          (fun t => match K66.m_line_told [t, nI size] h with | .ok u _ => u | _ => .non) (fun t ht => by
            obtain ⟨x, hx, rfl⟩ := List.mem_map.mp ht
            obtain ⟨l, hl, rfl⟩ := List.mem_map.mp hx
            refine ⟨(wipeT τ2 [4]).set 4 (some (.str (((" " : String) : Str) ++ wordsS l))), rfl, ?_⟩
            refine (call_ok (ts := [.str (((" " : String) : Str) ++ wordsS l), nI size]) (by rw [hτ2]; rfl)).trans ?_
            rw [ltold_ok s1 (R.line l hl)])
        have e2 : ((rows.map fun l => ((" " : String) : Str) ++ wordsS l).map T.str).map (fun t => match K66.m_line_told [t, nI size] h with | .ok u _ => u | _ => T.non) = rows.map lineT := by
          rw [List.map_map, List.map_map]
          refine List.map_congr_left fun l hl => ?_
          show (match K66.m_line_told [.str (((" " : String) : Str) ++ wordsS l), nI size] h with | .ok u _ => u | _ => T.non) = _
          rw [ltold_ok s1 (R.line l hl)]
        rw [e2] at z
        exact eL_ok z
    refine (set_ok (i := 3) V).trans ?_
    rw [hτ2, hτ3]
    rfl
  have v3 : eVar 3 τ3 h = .ok (rowsLT rows) h := by rw [hτ3]; rfl
  have N := test_ok ((op_ok (b := TL.bIn) (rfl : eK .non τ3 h = .ok .non h) v3).trans (none_in h))
  have G := test_ok ((op_ok (b := TL.bGt) (hLenL (ts := rows.map lineT) v3) (rfl : eK (.int 30) τ3 h = .ok (.int 30) h)).trans (hGt _ _ h))
  rw [decide_eq_false (by rw [List.length_map]; omega)] at G
  have Ri := (call_ok (b := K66.m_is_rising) (cons_ok v3 (rfl : aNil τ3 h = .ok [] h))).trans (rising_rows R h)
  have C5 := hOr N fun _ => hOr G fun _ => hNot (test_ok Ri)
  have S5 : sIf (TL.bOr (bTest (eOp TL.bIn (eK .non) (eVar 3))) (TL.bOr (bTest (eOp TL.bGt (eCall fLen (aCons (eVar 3) aNil)) (eK (.int 30)))) (TL.bNot (bTest (eCall K66.m_is_rising (aCons (eVar 3) aNil)))))) (sRet (eK .non)) sNil τ3 h = .nx τ3 h := (if_f C5).trans rfl
  have R6 : eTup (aCons (eVar 2) (aCons (eVar 3) aNil)) τ3 h = .ok (.tup [nI size, rowsLT rows]) h := by rw [hτ3]; rfl
  have D : K66.m_board_told = defM 5 1 K66.s_board_told := rfl
  rw [D, ← hb]
  refine defM_rt rfl ?_
  rw [← hτ]
  exact (seq_nx S1).trans ((seq_nx S2).trans ((seq_nx S3).trans ((seq_nx S4).trans ((seq_nx S5).trans (ret_ok R6)))))
end
end BG
namespace BG
open PySem L2 TL K58 K13 BD
theorem cells_in {size : Nat} {l : List Nat} (hl : l.length ≤ 1000) (lt : ∀ c ∈ l, c < size) (asc : l.Pairwise (· < ·)) (h : VH) : K66.m_are_cells [lineT l, nI size] h = .ok (.bl true) h := by
  obtain ⟨τ, hτ⟩ : ∃ τ, τ = startT 3 [lineT l, nI size] := ⟨_, rfl⟩
  have T1 : bTest (eIsi (.b "tuple") (eVar 0)) τ h = .ok true h := by rw [hτ]; rfl
  have z := mLc_map (mi := iSeqC (eVar 0)) (ws := [2]) (g := mgName 2) (e := eAnd (eCall m_is_whole (aCons (eVar 2) aNil)) (eChain TL.bLe TL.bLt (eK (.int 0)) (eVar 2) (eVar 1))) (τ := τ) (h := h) (ts := l.map nI) (iseq_ok (t := lineT l) (by rw [hτ]; rfl) rfl) rfl (by rw [List.length_map]; omega)
    (fun _ => .bl true) (fun t ht => by
      obtain ⟨c, hc, rfl⟩ := List.mem_map.mp ht
      have l2 := lt c hc
      obtain ⟨τ3, hτ3⟩ : ∃ τ3, τ3 = (wipeT τ [2]).set 2 (some (nI c)) := ⟨_, rfl⟩
      refine ⟨τ3, by rw [hτ3]; rfl, ?_⟩
      have v2 : eVar 2 τ3 h = .ok (nI c) h := by rw [hτ3, hτ]; rfl
      have a : eCall m_is_whole (aCons (eVar 2) aNil) τ3 h = .ok (.bl true) h := (call_ok (b := m_is_whole) (cons_ok v2 (rfl : aNil τ3 h = .ok [] h))).trans rfl
      have b := hChain (τ := τ3) (h := h) (f := eK (.int 0)) (g := eVar 2) (k := eVar 1) (x := .int 0) (y := nI c) (z := nI size) rfl v2 (hLe _ _ h) (by rw [hτ3, hτ]; rfl) (hLt _ _ h)
      rw [decide_eq_true (by omega), decide_eq_true (by omega)] at b
      exact hEand a fun _ => b)
  have A := (call_ok (b := fAll) (cons_ok (eL_ok z) (rfl : aNil τ h = .ok [] h))).trans (allT _ h)
  have C := hOr (hNot T1) fun _ => hNot (test_ok A)
  have Ri := (call_ok (b := K66.m_is_rising) (g := aCons (eVar 0) aNil) (τ := τ) (h := h) (ts := [lineT l]) (by rw [hτ]; rfl)).trans (rising_ints (.inr rfl) hl asc)
  have D : K66.m_are_cells = defM 3 2 K66.s_are_cells := rfl
  rw [D]
  refine defM_rt rfl ?_
  rw [← hτ]
  exact (seq_nx ((if_f C).trans rfl)).trans (ret_ok Ri)
abbrev prK (p : Nat × List Nat) : T × T := (nI p.1, .lst (p.2.map nI))
def shO (h : VH) (size : Nat) (mine its : List Nat) : VO := .ins 10 [.lst ((freeL size mine its).map nI), .ref (h.length + 1)]
def shH (h : VH) (size : Nat) (mine its : List Nat) (rows : List (List Nat)) : VH := h ++ [shO h size mine its, .dct ((prs mine its 0 rows).map prK)]
theorem sh_at0 (h : VH) (size : Nat) (mine its : List Nat) (rows : List (List Nat)) : (shH h size mine its rows)[h.length]? = some (shO h size mine its) := by
  unfold shH
  rw [List.getElem?_append_right (Nat.le_refl _), Nat.sub_self]
  rfl
theorem sh_at1 (h : VH) (size : Nat) (mine its : List Nat) (rows : List (List Nat)) : (shH h size mine its rows)[h.length + 1]? = some (.dct ((prs mine its 0 rows).map prK)) := by
  unfold shH
  rw [List.getElem?_append_right (by omega), show h.length + 1 - h.length = 1 by omega]
  rfl
theorem sh_set (h : VH) (size : Nat) (mine its : List Nat) (rows : List (List Nat)) (kvs : List (T × T)) : (shH h size mine its rows).set (h.length + 1) (.dct kvs) = h ++ [shO h size mine its, .dct kvs] := by
  unfold shH
  rw [List.set_append_right _ _ (by omega), show h.length + 1 - h.length = 1 by omega]
  rfl
theorem put_new {mine its : List Nat} {ls : List (List Nat)} {i : Nat} (hi : ls.length ≤ i) (v : T) : putT ((prs mine its 0 ls).map prK) (.inl ((i : Nat) : Int)) (nI i) v = (prs mine its 0 ls).map prK ++ [(nI i, v)] := by
  have : (((prs mine its 0 ls).map prK).any fun q => decide (keyT q.1 = some (.inl ((i : Nat) : Int)))) = false := List.any_eq_false.mpr fun q hq => by
    obtain ⟨p, hp, rfl⟩ := List.mem_map.mp hq
    have lt := prs_lt mine its ls 0 p hp
    have e : keyT (prK p).1 = some (.inl ((p.1 : Nat) : Int)) := rfl
    rw [e, decide_eq_true_eq]
    intro z
    have := Sum.inl.inj (Option.some.inj z)
    omega
  unfold putT
  rw [this]
  rfl
theorem pr_low (mine its : List Nat) (rows : List (List Nat)) : (prs mine its 0 rows).length ≤ rows.length := by
  have h1 := congrArg List.length (prs_snd mine its rows 0)
  rw [List.length_map] at h1
  unfold restsL at h1
  rw [List.length_map] at h1
  have h2 : (rows.filter (liveB its)).length ≤ rows.length := List.length_filter_le _ _
  omega
def shI1 : MS := (sAsg (eL (mLc (iRange1 (aCons (eVar 1) aNil)) [5] (mgName 5) (TL.bAnd (bTest (eOp TL.bNin (eVar 5) (eVar 3))) (bTest (eOp TL.bNin (eVar 5) (eVar 4)))) (eVar 5))) (mgFld 10 0 (eVar 0)))
def shC : MB := (TL.bNot (bTest (eCall fAny (aCons (eL (mLc (iSeqC (eVar 7)) [5] (mgName 5) bYes (eOp TL.bIn (eVar 5) (eVar 4)))) aNil))))
def shA : MS := (sAsg (eL (mLc (iSeqC (eVar 7)) [5] (mgName 5) (bTest (eOp TL.bNin (eVar 5) (eVar 3))) (eVar 5))) (mgSub bSetD (eFld 10 1 (eVar 0)) (eVar 6)))
theorem shI_eq : K66.s_Sheet___init__ = sSeq shI1 (sSeq (sAsg eDNew (mgFld 10 1 (eVar 0))) (sFor (iEnumM (aCons (eVar 2) aNil)) (mgTup 2 (mgsCons (mgName 6) (mgsCons (mgName 7) mgsNil))) (sIf shC shA sNil))) := rfl
section
variable {size : Nat} {rows : List (List Nat)} {mine its : List Nat}
abbrev shF (n size : Nat) (rows : List (List Nat)) (mine its : List Nat) (a b c : Option T) : TS_ := [some (.ref n), some (nI size), some (rowsLT rows), some (lineT mine), some (lineT its), a, b, c]
theorem init_ok (R : Rows size rows) (h : VH) : K66.m_Sheet___init__ [.ref h.length, nI size, rowsLT rows, lineT mine, lineT its] (h ++ [.ins 10 []]) = .ok .non (shH h size mine its rows) := by
  have s1 := R.s1
  have rl := R.len
  obtain ⟨n, hn⟩ : ∃ n, n = h.length := ⟨_, rfl⟩
  obtain ⟨τ, hτ⟩ : ∃ τ, τ = shF n size rows mine its none none none := ⟨_, rfl⟩
  have v0 : ∀ k : VH, eVar 0 τ k = .ok (.ref n) k := fun k => by rw [hτ]; rfl
  have F := rgf_ok (fun c => !decide (c ∈ mine) && !decide (c ∈ its)) (g := aCons (eVar 1) aNil) (c := TL.bAnd (bTest (eOp TL.bNin (eVar 5) (eVar 3))) (bTest (eOp TL.bNin (eVar 5) (eVar 4)))) (j := 5) (K := size) (τ := τ) (h := h ++ [.ins 10 []]) (rngk (by rw [hτ]; rfl) (by omega)) (by omega)
    (fun i hi => hAnd (test_ok ((op_ok (b := TL.bNin) (by rw [hτ]; rfl : eVar 5 _ _ = .ok (nI i) _) (by rw [hτ]; rfl : eVar 3 _ _ = .ok (lineT mine) _)).trans (nin_line i mine _))) fun _ => test_ok ((op_ok (b := TL.bNin) (by rw [hτ]; rfl : eVar 5 _ _ = .ok (nI i) _) (by rw [hτ]; rfl : eVar 4 _ _ = .ok (lineT its) _)).trans (nin_line i its _))) (fun t => by rw [hτ]; rfl)
  have q0 : (h ++ [VO.ins 10 []])[n]? = some (.ins 10 []) := by rw [hn]; simp
  have S1 : shI1 τ (h ++ [.ins 10 []]) = .nx τ (h ++ [.ins 10 [.lst ((freeL size mine its).map nI)]]) := by
    unfold shI1 sAsg
    rw [F]
    simp only [mgFld, v0, q0]
    rw [if_pos ⟨trivial, by simp⟩]
    rw [hn, List.set_append_right _ _ (Nat.le_refl _), Nat.sub_self]
    rfl
  have q1 : (h ++ [VO.ins 10 [T.lst ((freeL size mine its).map nI)]] ++ [.dct []])[n]? = some (.ins 10 [.lst ((freeL size mine its).map nI)]) := by
    rw [hn, List.append_assoc, List.getElem?_append_right (Nat.le_refl _), Nat.sub_self]
    rfl
  have S2 : sAsg eDNew (mgFld 10 1 (eVar 0)) τ (h ++ [.ins 10 [.lst ((freeL size mine its).map nI)]]) = .nx τ (shH h size mine its []) := by
    have e : eDNew τ (h ++ [VO.ins 10 [.lst ((freeL size mine its).map nI)]]) = .ok (.ref (h.length + 1)) (h ++ [.ins 10 [.lst ((freeL size mine its).map nI)]] ++ [.dct []]) := by
      unfold eDNew
      rw [List.length_append]
      rfl
    unfold sAsg
    rw [e]
    simp only [mgFld, v0, q1]
    rw [if_pos ⟨trivial, by simp⟩, hn, List.append_assoc, List.set_append_right _ _ (Nat.le_refl _), Nat.sub_self]
    rfl
  have sh : ∀ l ∈ rows, l.length ≤ 1000 := fun l hl => by
    have := (R.line l hl).len
    omega
  obtain ⟨τ', h', z, ⟨a, b, c, rfl⟩, rfl⟩ := sFor_inv (mi := iEnumM (aCons (eVar 2) aNil)) (g := mgTup 2 (mgsCons (mgName 6) (mgsCons (mgName 7) mgsNil))) (body := sIf shC shA sNil) (τ := τ) (h := shH h size mine its []) (h1 := shH h size mine its []) (rd := fun h => some (enumT (rows.map lineT))) (ts := enumT (rows.map lineT))
    (fun i τ h' => (∃ (a b c : Option T), τ = shF n size rows mine its a b c) ∧ h' = shH h size mine its (rows.take i)) (by rw [hτ]; rfl) ⟨⟨none, none, none, hτ⟩, rfl⟩ (fun _ _ _ _ => rfl) (fun i hi τ h' J => by
      obtain ⟨⟨a, b, c, rfl⟩, e'⟩ := J
      have hi2 : i < rows.length := by simpa [enumT] using hi
      have ei : (enumT (rows.map lineT))[i] = .tup [nI i, lineT rows[i]] := by simp [enumT]
      rw [ei, List.take_succ_eq_append_getElem hi2]
      have tk : (rows.take i).length = i := by rw [List.length_take]; omega
      obtain ⟨l, hl⟩ : ∃ l, l = rows[i] := ⟨_, rfl⟩
      have sl : l.length ≤ 1000 := by rw [hl]; exact sh _ (List.getElem_mem hi2)
      rw [← hl]
      obtain ⟨τ1, hτ1⟩ : ∃ τ1 : TS_, τ1 = shF n size rows mine its a (some (nI i)) (some (lineT l)) := ⟨_, rfl⟩
      have g : mgTup 2 (mgsCons (mgName 6) (mgsCons (mgName 7) mgsNil)) (.tup [nI i, lineT l]) (shF n size rows mine its a b c) h' = .ok τ1 h' := by rw [hτ1]; rfl
      have w := mLc_map (mi := iSeqC (eVar 7)) (ws := [5]) (g := mgName 5) (e := eOp TL.bIn (eVar 5) (eVar 4)) (τ := τ1) (h := h') (ts := l.map nI) (iseq_ok (t := lineT l) (by rw [hτ1]; rfl) rfl) rfl (by rw [List.length_map]; omega)
        (fun t => match t with | .int i => .bl (decide (i.toNat ∈ its)) | t => t) (fun t ht => by
          obtain ⟨x, _, rfl⟩ := List.mem_map.mp ht
          refine ⟨(wipeT τ1 [5]).set 5 (some (nI x)), rfl, ?_⟩
          exact (op_ok (b := TL.bIn) (by rw [hτ1]; rfl : eVar 5 _ h' = .ok (nI x) h') (by rw [hτ1]; rfl : eVar 4 _ h' = .ok (lineT its) h')).trans (in_line x its h'))
      rw [List.map_map] at w
      have C : shC τ1 h' = .ok (liveB its l) h' := hNot (test_ok ((call_ok (b := fAny) (cons_ok (eL_ok w) (rfl : aNil τ1 h' = .ok [] h'))).trans (hAny l (fun c => decide (c ∈ its)) h')))
      by_cases q : liveB its l = true
      · rw [q] at C
        have F2 := filt_ok nI l (fun x => !decide (x ∈ mine)) (f := eVar 7) (c := bTest (eOp TL.bNin (eVar 5) (eVar 3))) (j := 5) (τ := τ1) (h := h') (by rw [hτ1]; rfl) (by omega) (fun x _ => by rw [hτ1]; exact test_ok ((op_ok (b := TL.bNin) (rfl : eVar 5 _ h' = .ok (nI x) h') (rfl : eVar 3 _ h' = .ok (lineT mine) h')).trans (nin_line x mine h'))) (fun t => by rw [hτ1]; rfl)
        have v1 : eVar 0 τ1 h' = .ok (.ref n) h' := by rw [hτ1]; rfl
        have v6 : eVar 6 τ1 h' = .ok (nI i) h' := by rw [hτ1]; rfl
        have g0 : getI h' (.ref n) = some (10, [.lst ((freeL size mine its).map nI), .ref (h.length + 1)]) := by
          have q : h'[n]? = some (shO h size mine its) := by rw [e', hn]; exact sh_at0 ..
          unfold getI
          simp only [q]
          rfl
        have Fd : eFld 10 1 (eVar 0) τ1 h' = .ok (.ref (h.length + 1)) h' := by
          unfold eFld
          rw [v1]
          simp only [g0]
          rfl
        have pl := pr_low mine its (rows.take i)
        have B : bSetD (.ref (h.length + 1)) (nI i) (.lst ((restL mine l).map nI)) h' = .ok () (shH h size mine its (rows.take i ++ [l])) := by
          have k : keyT (nI i) = some (.inl ((i : Nat) : Int)) := rfl
          have q1 : h'[h.length + 1]? = some (.dct ((prs mine its 0 (rows.take i)).map prK)) := by rw [e']; exact sh_at1 ..
          unfold bSetD
          simp only [q1, k]
          rw [if_pos (by rw [List.length_map]; omega), e', put_new (Nat.le_of_eq tk), sh_set]
          unfold shH
          rw [prs_snoc, if_pos q, List.map_append, tk, Nat.zero_add]
          rfl
        have A : shA τ1 h' = .nx τ1 (shH h size mine its (rows.take i ++ [l])) := by
          unfold shA sAsg
          rw [F2]
          simp only [mgSub, Fd, v6]
          rw [show (l.filter fun x => !decide (x ∈ mine)) = restL mine l from rfl, B]
        exact ⟨τ1, h', τ1, _, g, .inl ((if_t C).trans A), ⟨_, _, _, hτ1⟩, rfl⟩
      · rw [Bool.not_eq_true] at q
        rw [q] at C
        refine ⟨τ1, h', τ1, h', g, .inl ((if_f C).trans rfl), ⟨_, _, _, hτ1⟩, ?_⟩
        rw [e']
        unfold shH
        rw [prs_snoc, if_neg (by rw [q]; exact Bool.false_ne_true), List.append_nil])
  have e0 : (enumT (rows.map lineT)).length = rows.length := by simp [enumT]
  rw [e0, List.take_length] at z
  have D : K66.m_Sheet___init__ = defM 8 5 K66.s_Sheet___init__ := rfl
  rw [D, shI_eq, ← hn]
  refine defM_nx (τ := shF n size rows mine its a b c) rfl ?_
  have e : startT 8 [T.ref n, nI size, rowsLT rows, lineT mine, lineT its] = τ := by rw [hτ]; rfl
  rw [e]
  exact (seq_nx S1).trans ((seq_nx S2).trans z)
theorem sheet_ok (R : Rows size rows) (M : Hand size mine []) (I : Hand size its mine) (h : VH) : K66.m_sheet_told [.str (boardS size rows), lineT mine, lineT its] h = .ok (.ref h.length) (shH h size mine its rows) := by
  have s1 := R.s1
  have ml := M.len
  have il := I.len
  obtain ⟨b, hb⟩ : ∃ b, b = boardS size rows := ⟨_, rfl⟩
  obtain ⟨τ, hτ⟩ : ∃ τ, τ = startT 7 [T.str b, lineT mine, lineT its] := ⟨_, rfl⟩
  obtain ⟨τ1, hτ1⟩ : ∃ τ1, τ1 = [some (T.str b), some (lineT mine), some (lineT its), some (.tup [nI size, rowsLT rows]), none, none, none] := ⟨_, rfl⟩
  obtain ⟨τ2, hτ2⟩ : ∃ τ2, τ2 = [some (T.str b), some (lineT mine), some (lineT its), some (.tup [nI size, rowsLT rows]), some (nI size), some (rowsLT rows), none] := ⟨_, rfl⟩
  have S1 : sSet 3 (eCall K66.m_board_told (aCons (eVar 0) aNil)) τ h = .nx τ1 h := by
    refine (set_ok (i := 3) ((call_ok (b := K66.m_board_told) (ts := [.str b]) (by rw [hτ]; rfl)).trans (by rw [hb]; exact btold_ok R h))).trans ?_
    rw [hτ, hτ1]
    rfl
  have I1 : bTest (eOp TL.bIs (eVar 3) (eK .non)) τ1 h = .ok false h := by rw [hτ1]; rfl
  have S3 : sAsg (eVar 3) (mgTup 2 (mgsCons (mgName 4) (mgsCons (mgName 5) mgsNil))) τ1 h = .nx τ2 h := by rw [hτ1, hτ2]; rfl
  have v4 : eVar 4 τ2 h = .ok (nI size) h := by rw [hτ2]; rfl
  have v1 : eVar 1 τ2 h = .ok (lineT mine) h := by rw [hτ2]; rfl
  have v2 : eVar 2 τ2 h = .ok (lineT its) h := by rw [hτ2]; rfl
  have nil : aNil τ2 h = .ok [] h := rfl
  have A1 := (call_ok (b := K66.m_are_cells) (cons_ok v1 (cons_ok v4 nil))).trans (cells_in (by omega) M.lt M.asc h)
  have A2 := (call_ok (b := K66.m_are_cells) (cons_ok v2 (cons_ok v4 nil))).trans (cells_in (by omega) I.lt I.asc h)
  have w := mLc_map (mi := iSeqC (eVar 2)) (ws := [6]) (g := mgName 6) (e := eOp TL.bIn (eVar 6) (eVar 1)) (τ := τ2) (h := h) (ts := its.map nI) (iseq_ok (t := lineT its) v2 rfl) rfl (by rw [List.length_map]; omega)
    (fun t => match t with | .int i => .bl (decide (i.toNat ∈ mine)) | t => t) (fun t ht => by
      obtain ⟨x, _, rfl⟩ := List.mem_map.mp ht
      refine ⟨(wipeT τ2 [6]).set 6 (some (nI x)), rfl, ?_⟩
      exact (op_ok (b := TL.bIn) (by rw [hτ2]; rfl : eVar 6 _ h = .ok (nI x) h) (by rw [hτ2]; rfl : eVar 1 _ h = .ok (lineT mine) h)).trans (in_line x mine h))
  rw [List.map_map] at w
  have W := (call_ok (b := fAny) (cons_ok (eL_ok w) nil)).trans (hAny its (fun c => decide (c ∈ mine)) h)
  have no : its.any (fun c => decide (c ∈ mine)) = false := List.any_eq_false.mpr fun c hc => by
    rw [decide_eq_true_eq]
    exact I.out c hc
  rw [no] at W
  have C := hOr (hNot (test_ok A1)) fun _ => hOr (hNot (test_ok A2)) fun _ => test_ok W
  have P : eCall (makeM 10 K66.m_Sheet___init__) (aCons (eVar 4) (aCons (eVar 5) (aCons (eVar 1) (aCons (eVar 2) aNil)))) τ2 h = .ok (.ref h.length) (shH h size mine its rows) := by
    refine (call_ok (b := makeM 10 K66.m_Sheet___init__) (ts := [nI size, rowsLT rows, lineT mine, lineT its]) (by rw [hτ2]; rfl)).trans ?_
    unfold makeM
    rw [init_ok R h]
  have D : K66.m_sheet_told = defM 7 3 K66.s_sheet_told := rfl
  rw [D, ← hb]
  refine defM_rt rfl ?_
  rw [← hτ]
  exact (seq_nx S1).trans ((seq_nx ((if_f I1).trans rfl)).trans ((seq_nx S3).trans ((seq_nx ((if_f C).trans rfl)).trans (ret_ok P))))
end
end BG
namespace BG
open PySem L2 TL K58 K13 BD
theorem srt_id {l : List Nat} (asc : l.Pairwise (· < ·)) : srt l = l := by
  have nd : l.Nodup := asc.imp fun h => Nat.ne_of_lt h
  exact TL.eq_of_strict (fun c : Nat => (c : Int)) ((srt_asc nd).imp fun h => by omega) (asc.imp fun h => by omega) fun x => srt_mem
theorem mc_ok {b : List T → VH → Res (List T)} {g : MA} {τ : TS_} {h h1 : VH} {ts : List T} (e : g τ h = .ok ts h1) : mCall b g τ h = b ts h1 := by unfold mCall; rw [e]
theorem prs_ge (mine its : List Nat) : ∀ (ls : List (List Nat)) (k : Nat), ∀ p ∈ prs mine its k ls, k ≤ p.1
  | [], _, p, h => by cases h
  | l :: ls, k, p, h => by
    have ih := prs_ge mine its ls (k + 1) p
    unfold prs at h
    split at h
    · rcases List.mem_cons.mp h with rfl | h
      · exact Nat.le_refl _
      · have := ih h
        omega
    · have := ih h
      omega
theorem prs_asc (mine its : List Nat) : ∀ (ls : List (List Nat)) (k : Nat), (prs mine its k ls).Pairwise fun p q => p.1 < q.1
  | [], _ => .nil
  | l :: ls, k => by
    have ih := prs_asc mine its ls (k + 1)
    unfold prs
    split
    · exact List.pairwise_cons.mpr ⟨fun p hp => by have := prs_ge mine its ls (k + 1) p hp; show k < p.1; omega, ih⟩
    · exact ih
theorem get_pr : ∀ {ps : List (Nat × List Nat)}, (ps.Pairwise fun p q => p.1 < q.1) → ∀ p ∈ ps, getT (ps.map prK) (.inl ((p.1 : Nat) : Int)) = some (.lst (p.2.map nI))
  | [], _, p, hp => by cases hp
  | q :: ps, pw, p, hp => by
    rw [List.pairwise_cons] at pw
    have e : keyT (prK q).1 = some (.inl ((q.1 : Nat) : Int)) := rfl
    rcases List.mem_cons.mp hp with rfl | hp
    · unfold getT
      rw [List.map_cons, List.find?_cons, e, decide_eq_true rfl]
      rfl
    · have lt := pw.1 p hp
      have ne : decide (keyT (prK q).1 = some (.inl ((p.1 : Nat) : Int))) = false := decide_eq_false fun z => by
        rw [e] at z
        have := Sum.inl.inj (Option.some.inj z)
        omega
      have ih := get_pr pw.2 p hp
      unfold getT at ih ⊢
      rw [List.map_cons, List.find?_cons, ne]
      exact ih
section
variable {size : Nat} {rows : List (List Nat)} {mine its : List Nat}
def lotsT (rs : List (List Nat)) : T := .lst (rs.map fun r => .lst (r.map nI))
theorem lots_at (rl : rows.length ≤ 1000) {k : VH} {n d : Nat} {F0 : T} (q0 : k[n]? = some (.ins 10 [F0, .ref d])) (q1 : k[d]? = some (.dct ((prs mine its 0 rows).map prK))) : K66.m_Sheet_lots [.ref n] k = .ok (lotsT (restsL rows mine its)) k := by
  have g0 : getI k (.ref n) = some (10, [F0, .ref d]) := by
    unfold getI
    simp only [q0]
  have Fd : ∀ τ : TS_, eVar 0 τ k = .ok (.ref n) k → eFld 10 1 (eVar 0) τ k = .ok (.ref d) k := fun τ v => by
    unfold eFld
    rw [v]
    simp only [g0]
    rfl
  obtain ⟨τ, hτ⟩ : ∃ τ, τ = startT 2 [T.ref n] := ⟨_, rfl⟩
  have v0 : eVar 0 τ k = .ok (.ref n) k := by rw [hτ]; rfl
  have pl := pr_low mine its rows
  have L : mCall fListD (aCons (eFld 10 1 (eVar 0)) aNil) τ k = .ok (((prs mine its 0 rows).map Prod.fst).map nI) k := by
    refine (mc_ok (b := fListD) (cons_ok (Fd τ v0) (rfl : aNil τ k = .ok [] k))).trans ?_
    unfold fListD
    simp only [q1]
    rw [if_pos (by rw [List.length_map]; omega), List.map_map, List.map_map]
    rfl
  have So : mCall fSorted (aCons (eL (mCall fListD (aCons (eFld 10 1 (eVar 0)) aNil))) aNil) τ k = .ok (((prs mine its 0 rows).map Prod.fst).map nI) k := by
    refine (mc_ok (b := fSorted) (cons_ok (eL_ok L) (rfl : aNil τ k = .ok [] k))).trans ?_
    have := sorted_ints (t := .lst (((prs mine its 0 rows).map Prod.fst).map nI)) (l := (prs mine its 0 rows).map Prod.fst) (h := k) rfl
    rw [srt_id (List.pairwise_map.mpr (prs_asc mine its rows 0))] at this
    exact this
  have z := mLc_map (mi := iSeqC (eL (mCall fSorted (aCons (eL (mCall fListD (aCons (eFld 10 1 (eVar 0)) aNil))) aNil)))) (ws := [1]) (g := mgName 1) (e := eOp bGetD (eFld 10 1 (eVar 0)) (eVar 1)) (τ := τ) (h := k) (ts := ((prs mine its 0 rows).map Prod.fst).map nI) (iseq_ok (eL_ok So) rfl) rfl (by rw [List.length_map, List.length_map]; omega)
    (fun t => match bGetD (.ref d) t k with | .ok u _ => u | _ => .non) (fun t ht => by
      obtain ⟨x, hx, rfl⟩ := List.mem_map.mp ht
      obtain ⟨p, hp, rfl⟩ := List.mem_map.mp hx
      refine ⟨(wipeT τ [1]).set 1 (some (nI p.1)), rfl, ?_⟩
      have e : bGetD (.ref d) (nI p.1) k = .ok (.lst (p.2.map nI)) k := by
        have e2 : keyT (nI p.1) = some (.inl ((p.1 : Nat) : Int)) := rfl
        unfold bGetD
        simp only [q1, e2, get_pr (prs_asc mine its rows 0) p hp]
      rw [e]
      exact (op_ok (b := bGetD) (Fd _ (by rw [hτ]; rfl)) (by rw [hτ]; rfl : eVar 1 _ k = .ok (nI p.1) k)).trans e)
  have e : (((prs mine its 0 rows).map Prod.fst).map nI).map (fun t => match bGetD (.ref d) t k with | .ok u _ => u | _ => T.non) = (restsL rows mine its).map fun r => .lst (r.map nI) := by
    rw [← prs_snd mine its rows 0, List.map_map, List.map_map, List.map_map]
    refine List.map_congr_left fun p hp => ?_
    have e2 : keyT (nI p.1) = some (.inl ((p.1 : Nat) : Int)) := rfl
    show (match bGetD (.ref d) (nI p.1) k with | .ok u _ => u | _ => T.non) = _
    unfold bGetD
    simp only [q1, e2, get_pr (prs_asc mine its rows 0) p hp]
    rfl
  rw [e] at z
  have D : K66.m_Sheet_lots = defM 2 1 K66.s_Sheet_lots := rfl
  rw [D]
  refine defM_rt rfl ?_
  rw [← hτ]
  exact ret_ok (eL_ok z)
theorem lots_ok (R : Rows size rows) (h : VH) : K66.m_Sheet_lots [.ref h.length] (shH h size mine its rows) = .ok (lotsT (restsL rows mine its)) (shH h size mine its rows) := by
  have rl := R.len
  exact lots_at (by omega) (sh_at0 h size mine its rows) (sh_at1 h size mine its rows)
end
theorem div_ok {a b : Nat} (hb : b < 2 ^ 400) (h : VH) : K66.m_has_divisor [nI a, nI b] h = .ok (.bl (!decide (Nat.gcd a b = 1))) h := by
  have z := gcd_loop (c := bTest (eOp TL.bNe (eVar 1) (eK (.int 0)))) (body := sPar 0 1 (aCons (eVar 1) (aCons (eOp TL.bMod (eVar 0) (eVar 1)) aNil))) (st := fun a b => [some (T.int (a : Nat)), some (.int (b : Nat))]) (fun a b h => by
      refine test_ok ((op_ok (b := TL.bNe) (rfl : eVar 1 _ h = .ok (.int (b : Nat)) h) rfl).trans ((hNe _ _ h).trans ?_))
      have : (!decide (((b : Nat) : Int) = 0)) = decide (0 < b) := by
        rw [← decide_not]
        exact decide_eq_decide.mpr (by omega)
      rw [this]) (fun a b h bp => by
      have A := (op_ok (b := TL.bMod) (rfl : eVar 0 [some (T.int (a : Nat)), some (.int (b : Nat))] h = .ok (.int (a : Nat)) h) (rfl : eVar 1 [some (T.int (a : Nat)), some (.int (b : Nat))] h = .ok (.int (b : Nat)) h)).trans (hMod bp h)
      unfold sPar
      rw [cons_ok (rfl : eVar 1 [some (T.int (a : Nat)), some (.int (b : Nat))] h = .ok (.int (b : Nat)) h) (cons_ok A rfl)]
      rfl) 400 a b 1000 h hb (by omega)
  have D : K66.m_has_divisor = defM 2 2 K66.s_has_divisor := rfl
  rw [D]
  refine defM_rt rfl ((seq_nx z).trans (ret_ok ?_))
  refine (op_ok (b := TL.bNe) (rfl : eVar 0 _ h = .ok (.int ((Nat.gcd a b : Nat) : Int)) h) (rfl : eK (.int 1) _ h = .ok (.int 1) h)).trans ((hNe _ _ h).trans ?_)
  have : decide (((Nat.gcd a b : Nat) : Int) = 1) = decide (Nat.gcd a b = 1) := decide_eq_decide.mpr (by omega)
  rw [this]
theorem pws_ok {b n : Nat} (hb : b ≤ 1000) (hn : n ≤ 100000) (h : VH) : K66.m_power_sheets [nI b, nI n] h = .ok (nI (b ^ n)) h := power_ok hb hn h
def mx (ls : List Nat) : Nat := ls.foldl max 0
theorem fold_cast : ∀ (l : List Nat) (a : Nat), (l.map fun n : Nat => (n : Int)).foldl max (a : Int) = ((l.foldl max a : Nat) : Int)
  | [], _ => rfl
  | b :: l, a => by
    rw [List.map_cons, List.foldl_cons, List.foldl_cons, ← fold_cast l (max a b)]
    congr 1
    omega
theorem fold_ge : ∀ (l : List Nat) (a : Nat), a ≤ l.foldl max a ∧ ∀ x ∈ l, x ≤ l.foldl max a
  | [], a => ⟨Nat.le_refl _, fun x h => by cases h⟩
  | b :: l, a => by
    obtain ⟨h1, h2⟩ := fold_ge l (max a b)
    rw [List.foldl_cons]
    refine ⟨by omega, fun x hx => ?_⟩
    rcases List.mem_cons.mp hx with rfl | hx
    · omega
    · exact h2 x hx
theorem fold_le {m : Nat} : ∀ (l : List Nat) (a : Nat), a ≤ m → (∀ x ∈ l, x ≤ m) → l.foldl max a ≤ m
  | [], a, h, _ => h
  | b :: l, a, h, h2 => by
    rw [List.foldl_cons]
    have := h2 b List.mem_cons_self
    exact fold_le l (max a b) (by omega) fun x hx => h2 x (List.mem_cons_of_mem _ hx)
theorem mx_ge {l : List Nat} {x : Nat} (h : x ∈ l) : x ≤ mx l := (fold_ge l 0).2 x h
theorem maxD_ok {f : ME} {τ : TS_} {h : VH} (l : List Nat) (e : f τ h = .ok (.lst (l.map nI)) h) : eMaxD (aCons f aNil) (eK (.int 0)) τ h = .ok (nI (mx l)) h := by
  unfold eMaxD
  rw [cons_ok e (rfl : aNil τ h = .ok [] h)]
  have k : eK (.int 0) τ h = .ok (.int 0) h := rfl
  have q : TL.listOf h (.lst (l.map nI)) = some (l.map nI) := rfl
  simp only [k, q, BD.ints_of]
  cases l with
  | nil => rfl
  | cons a l =>
    have e : ((a :: l).map fun n : Nat => (n : Int)) = (a : Int) :: l.map fun n : Nat => (n : Int) := rfl
    rw [e]
    simp only
    rw [fold_cast]
    unfold mx
    rw [List.foldl_cons]
    have e : max 0 a = a := by omega
    rw [e]
end BG
namespace BG
open PySem L2 TL K58 K13 BD
def lng (rs : List (List Nat)) : Nat := mx (rs.map List.length)
theorem lng_ge {rs : List (List Nat)} {r : List Nat} (h : r ∈ rs) : r.length ≤ lng rs := mx_ge (List.mem_map.mpr ⟨r, h, rfl⟩)
theorem lng_le {rs : List (List Nat)} {m : Nat} (h : ∀ r ∈ rs, r.length ≤ m) : lng rs ≤ m := fold_le _ 0 (Nat.zero_le _) fun x hx => by
  obtain ⟨r, hr, rfl⟩ := List.mem_map.mp hx
  exact h r hr
theorem pow5 {m n : Nat} (hm : m ≤ 9) (hn : n ≤ 5) : 0 < (m + 1) ^ n ∧ (m + 1) ^ n ≤ 100000 := by
  have h1 : (m + 1) ^ n ≤ 10 ^ n := Nat.pow_le_pow_left (by omega) n
  have h2 : 10 ^ n ≤ 10 ^ 5 := Nat.pow_le_pow_right (by omega) hn
  exact ⟨Nat.pow_pos (by omega), by omega⟩
theorem wsum_le {m : Nat} {rs : List (List Nat)} (hm : m ≤ 9) (h5 : ∀ r ∈ rs, r.length ≤ 5) (hl : rs.length ≤ 30) : wsum m (lng rs) rs ≤ 3000000 := by
  have := sum_le (f := fun r : List Nat => (m + 1) ^ (lng rs - r.length)) (b := 100000) (l := rs) fun r hr => (pow5 hm (by have := lng_le h5; omega)).2
  unfold wsum
  omega
theorem bMulL {i j : Int} (h1 : -1000000000000 < i) (h2 : i < 1000000000000) (h : VH) : TL.bMul (.int i) (.int j) h = .ok (.int (i * j)) h := by
  unfold TL.bMul
  simp only [cm_l (j := j) h1 h2, if_true]
def iwC : MB := (TL.bOr (TL.bNot (bTest (eCall fAll (aCons (eL (mLc (iSeqC (eTup (aCons (eVar 1) (aCons (eVar 2) (aCons (eVar 3) aNil))))) [4] (mgName 4) bYes (eCall m_is_whole (aCons (eVar 4) aNil)))) aNil)))) (TL.bOr (TL.bNot (bTest (eChain TL.bLe TL.bLe (eK (.int 1)) (eVar 1) (eK (.int 9))))) (bTest (eOp TL.bLt (eVar 3) (eK (.int 1))))))
def iwA : MS := (sAsg (eTup (aCons (eMeth 10 K66.m_Sheet_lots (eVar 0) aNil) (aCons (eOp TL.bAdd (eVar 1) (eK (.int 1))) aNil))) (mgTup 2 (mgsCons (mgName 5) (mgsCons (mgName 6) mgsNil))))
def iwM : MS := (sSet 7 (eMaxD (aCons (eL (mLc (iSeqC (eVar 5)) [8] (mgName 8) bYes (eCall fLen (aCons (eVar 8) aNil)))) aNil) (eK (.int 0))))
def iwT : MS := (sSet 9 (eCall fSum (aCons (eL (mLc (iSeqC (eVar 5)) [8] (mgName 8) bYes (eCall K66.m_power_sheets (aCons (eVar 6) (aCons (eOp TL.bSub (eVar 7) (eCall fLen (aCons (eVar 8) aNil))) aNil))))) aNil)))
def iwR : MS := (sRet (eAnd (eOp TL.bEq (eOp TL.bMul (eVar 2) (eCall K66.m_power_sheets (aCons (eVar 6) (aCons (eVar 7) aNil)))) (eOp TL.bMul (eVar 9) (eVar 3))) (eNot (eCall K66.m_has_divisor (aCons (eVar 2) (aCons (eVar 3) aNil))))))
theorem iw_eq : K66.s_is_weight = sSeq (sIf iwC (sRet (eK (.bl false))) sNil) (sSeq iwA (sSeq iwM (sSeq iwT iwR))) := rfl
section
variable {size : Nat} {rows : List (List Nat)} {mine its : List Nat}
theorem rests5 (five : ∀ l ∈ rows, l.length ≤ 5) {r : List Nat} (hr : r ∈ restsL rows mine its) : r.length ≤ 5 := by
  obtain ⟨l, hl, rfl⟩ := List.mem_map.mp hr
  have h1 := five l (List.mem_filter.mp hl).1
  have h2 : (restL mine l).length ≤ l.length := List.length_filter_le _ _
  omega
abbrev iwF (n m u l : Nat) (a5 a6 a7 a9 : Option T) : TS_ := [some (.ref n), some (nI m), some (nI u), some (nI l), none, a5, a6, a7, none, a9]
theorem isw_ok (R : Rows size rows) (five : ∀ l ∈ rows, l.length ≤ 5) {m u l : Nat} (m1 : 1 ≤ m) (m9 : m ≤ 9) (l1 : 1 ≤ l) (lb : l < 2 ^ 400) (h : VH) :
    K66.m_is_weight [.ref h.length, nI m, nI u, nI l] (shH h size mine its rows) = .ok (.bl (decide (u * (m + 1) ^ lng (restsL rows mine its) = wsum m (lng (restsL rows mine its)) (restsL rows mine its) * l) && decide (Nat.gcd u l = 1))) (shH h size mine its rows) := by
  have LO := lots_ok (mine := mine) (its := its) R h
  obtain ⟨k, hk⟩ : ∃ k, k = shH h size mine its rows := ⟨_, rfl⟩
  have q0 : k[h.length]? = some (shO h size mine its) := by rw [hk]; exact sh_at0 ..
  have g0 : getI k (.ref h.length) = some (10, [.lst ((freeL size mine its).map nI), .ref (h.length + 1)]) := by
    unfold getI
    simp only [q0]
    rfl
  have r5 : ∀ r ∈ restsL rows mine its, r.length ≤ 5 := fun r hr => rests5 five hr
  have rl := rests_len (mine := mine) (its := its) R
  rw [← hk] at LO ⊢
  obtain ⟨rs, hrs⟩ : ∃ rs, rs = restsL rows mine its := ⟨_, rfl⟩
  rw [← hrs] at LO r5 rl ⊢
  obtain ⟨n, hn⟩ : ∃ n, n = h.length := ⟨_, rfl⟩
  rw [← hn] at LO g0 ⊢
  have M5 := lng_le r5
  have W3 := wsum_le m9 r5 rl
  obtain ⟨M, hM⟩ : ∃ M, M = lng rs := ⟨_, rfl⟩
  rw [← hM] at M5 W3 ⊢
  obtain ⟨pM0, pM1⟩ := pow5 (n := M) m9 M5
  obtain ⟨τ, hτ⟩ : ∃ τ, τ = iwF n m u l none none none none := ⟨_, rfl⟩
  have z1 := mLc_map (mi := iSeqC (eTup (aCons (eVar 1) (aCons (eVar 2) (aCons (eVar 3) aNil))))) (ws := [4]) (g := mgName 4) (e := eCall m_is_whole (aCons (eVar 4) aNil)) (τ := τ) (h := k) (ts := [nI m, nI u, nI l]) (iseq_ok (t := .tup [nI m, nI u, nI l]) (by rw [hτ]; rfl) rfl) rfl (by simp)
    (fun _ => .bl true) (fun t ht => by
      refine ⟨(wipeT τ [4]).set 4 (some t), rfl, ?_⟩
      have : ∃ c : Nat, t = nI c := by
        simp only [List.mem_cons, List.not_mem_nil, or_false] at ht
        rcases ht with rfl | rfl | rfl
        · exact ⟨_, rfl⟩
        · exact ⟨_, rfl⟩
        · exact ⟨_, rfl⟩
      obtain ⟨c, rfl⟩ := this
      exact (call_ok (b := m_is_whole) (cons_ok (by rw [hτ]; rfl : eVar 4 _ k = .ok (nI c) k) (rfl : aNil _ k = .ok [] k))).trans rfl)
  have A1 := (call_ok (b := fAll) (cons_ok (eL_ok z1) (rfl : aNil τ k = .ok [] k))).trans (allT _ k)
  have v1 : eVar 1 τ k = .ok (nI m) k := by rw [hτ]; rfl
  have v3 : eVar 3 τ k = .ok (nI l) k := by rw [hτ]; rfl
  have A2 := hChain (τ := τ) (h := k) (f := eK (.int 1)) (g := eVar 1) (k := eK (.int 9)) (x := .int 1) (y := nI m) (z := .int 9) rfl v1 (hLe _ _ k) rfl (hLe _ _ k)
  rw [decide_eq_true (by omega), decide_eq_true (by omega)] at A2
  have A3 := test_ok ((op_ok (b := TL.bLt) v3 (rfl : eK (.int 1) τ k = .ok (.int 1) k)).trans (hLt _ _ k))
  rw [decide_eq_false (by omega)] at A3
  have C : iwC τ k = .ok false k := hOr (hNot (test_ok A1)) fun _ => hOr (hNot (test_ok A2)) fun _ => A3
  obtain ⟨τ1, hτ1⟩ : ∃ τ1, τ1 = iwF n m u l (some (lotsT rs)) (some (nI (m + 1))) none none := ⟨_, rfl⟩
  have L : eMeth 10 K66.m_Sheet_lots (eVar 0) aNil τ k = .ok (lotsT rs) k := by
    have v0 : eVar 0 τ k = .ok (.ref n) k := by rw [hτ]; rfl
    unfold eMeth
    rw [v0]
    simp only [g0, if_true]
    exact LO
  have Bm : eOp TL.bAdd (eVar 1) (eK (.int 1)) τ k = .ok (nI (m + 1)) k := (op_ok (b := TL.bAdd) v1 (rfl : eK (.int 1) τ k = .ok (.int 1) k)).trans (hAdd _ _ k)
  have S1 : iwA τ k = .nx τ1 k := by
    have E : eTup (aCons (eMeth 10 K66.m_Sheet_lots (eVar 0) aNil) (aCons (eOp TL.bAdd (eVar 1) (eK (.int 1))) aNil)) τ k = .ok (.tup [lotsT rs, nI (m + 1)]) k := by
      unfold eTup
      rw [cons_ok L (cons_ok Bm (rfl : aNil τ k = .ok [] k))]
      rfl
    unfold iwA sAsg
    rw [E, hτ, hτ1]
    rfl
  have z2 := mLc_map (mi := iSeqC (eVar 5)) (ws := [8]) (g := mgName 8) (e := eCall fLen (aCons (eVar 8) aNil)) (τ := τ1) (h := k) (ts := rs.map fun r => .lst (r.map nI)) (iseq_ok (t := lotsT rs) (by rw [hτ1]; rfl) rfl) rfl (by rw [List.length_map]; omega)
    (fun t => match t with | .lst us => nI us.length | t => t) (fun t ht => by
      obtain ⟨r, hr, rfl⟩ := List.mem_map.mp ht
      refine ⟨(wipeT τ1 [8]).set 8 (some (.lst (r.map nI))), rfl, ?_⟩
      exact hLenL (by rw [hτ1]; rfl))
  have e2 : (rs.map fun r => T.lst (r.map nI)).map (fun t => match t with | .lst us => nI us.length | t => t) = (rs.map List.length).map nI := by
    rw [List.map_map, List.map_map]
    refine List.map_congr_left fun r hr => ?_
    show nI (r.map nI).length = nI r.length
    rw [List.length_map]
  rw [e2] at z2
  have MX := maxD_ok (rs.map List.length) (eL_ok z2)
  obtain ⟨τ2, hτ2⟩ : ∃ τ2, τ2 = iwF n m u l (some (lotsT rs)) (some (nI (m + 1))) (some (nI M)) none := ⟨_, rfl⟩
  have S2 : iwM τ1 k = .nx τ2 k := by
    refine (set_ok (i := 7) MX).trans ?_
    rw [hτ1, hτ2, hM]
    rfl
  have z3 := mLc_map (mi := iSeqC (eVar 5)) (ws := [8]) (g := mgName 8) (e := eCall K66.m_power_sheets (aCons (eVar 6) (aCons (eOp TL.bSub (eVar 7) (eCall fLen (aCons (eVar 8) aNil))) aNil))) (τ := τ2) (h := k) (ts := rs.map fun r => .lst (r.map nI)) (iseq_ok (t := lotsT rs) (by rw [hτ2]; rfl) rfl) rfl (by rw [List.length_map]; omega)
    (fun t => match t with | .lst us => nI ((m + 1) ^ (M - us.length)) | t => t) (fun t ht => by
      obtain ⟨r, hr, rfl⟩ := List.mem_map.mp ht
      have lr := lng_ge hr
      rw [← hM] at lr
      obtain ⟨τ3, hτ3⟩ : ∃ τ3, τ3 = (wipeT τ2 [8]).set 8 (some (.lst (r.map nI))) := ⟨_, rfl⟩
      refine ⟨τ3, by rw [hτ3]; rfl, ?_⟩
      have Ln := hLenL (f := eVar 8) (τ := τ3) (h := k) (ts := r.map nI) (by rw [hτ3, hτ2]; rfl)
      have Sb := (op_ok (b := TL.bSub) (by rw [hτ3, hτ2]; rfl : eVar 7 τ3 k = .ok (nI M) k) Ln).trans (hSub _ _ k)
      have e : ((M : Nat) : Int) - ((r.map nI).length : Nat) = ((M - (r.map nI).length : Nat) : Int) := by rw [List.length_map]; omega
      rw [e] at Sb
      exact (call_ok (b := K66.m_power_sheets) (cons_ok (by rw [hτ3, hτ2]; rfl : eVar 6 τ3 k = .ok (nI (m + 1)) k) (cons_ok Sb (rfl : aNil τ3 k = .ok [] k)))).trans (pws_ok (by omega) (by omega) k))
  have e3 : (rs.map fun r => T.lst (r.map nI)).map (fun t => match t with | .lst us => nI ((m + 1) ^ (M - us.length)) | t => t) = (rs.map fun r => (m + 1) ^ (M - r.length)).map nI := by
    rw [List.map_map, List.map_map]
    refine List.map_congr_left fun r hr => ?_
    show nI ((m + 1) ^ (M - (r.map nI).length)) = _
    rw [List.length_map]
    rfl
  rw [e3] at z3
  have Su : eCall fSum (aCons (eL (mLc (iSeqC (eVar 5)) [8] (mgName 8) bYes (eCall K66.m_power_sheets (aCons (eVar 6) (aCons (eOp TL.bSub (eVar 7) (eCall fLen (aCons (eVar 8) aNil))) aNil))))) aNil) τ2 k = .ok (nI (wsum m M rs)) k := by
    refine (call_ok (b := fSum) (cons_ok (eL_ok z3) (rfl : aNil τ2 k = .ok [] k))).trans ?_
    simp only [fSum, fInts, TL.listOf, BD.ints_of, sum_cast]
    rfl
  obtain ⟨τ4, hτ4⟩ : ∃ τ4, τ4 = iwF n m u l (some (lotsT rs)) (some (nI (m + 1))) (some (nI M)) (some (nI (wsum m M rs))) := ⟨_, rfl⟩
  have S3 : iwT τ2 k = .nx τ4 k := by
    refine (set_ok (i := 9) Su).trans ?_
    rw [hτ2, hτ4]
    rfl
  have P := (call_ok (b := K66.m_power_sheets) (g := aCons (eVar 6) (aCons (eVar 7) aNil)) (τ := τ4) (h := k) (ts := [nI (m + 1), nI M]) (by rw [hτ4]; rfl)).trans (pws_ok (by omega) (by omega) k)
  have X := (op_ok (b := TL.bMul) (by rw [hτ4]; rfl : eVar 2 τ4 k = .ok (nI u) k) P).trans (hMul (by omega) k)
  have Y := (op_ok (b := TL.bMul) (by rw [hτ4]; rfl : eVar 9 τ4 k = .ok (nI (wsum m M rs)) k) (by rw [hτ4]; rfl : eVar 3 τ4 k = .ok (nI l) k)).trans (bMulL (by omega) (by omega) k)
  have E := (op_ok (b := TL.bEq) X Y).trans (hEq _ _ k)
  have ee : decide (((u : Nat) : Int) * (((m + 1) ^ M : Nat) : Int) = ((wsum m M rs : Nat) : Int) * ((l : Nat) : Int)) = decide (u * (m + 1) ^ M = wsum m M rs * l) := by
    rw [← Int.natCast_mul, ← Int.natCast_mul]
    exact decide_eq_decide.mpr (by omega)
  rw [ee] at E
  have G := hEnot ((call_ok (b := K66.m_has_divisor) (g := aCons (eVar 2) (aCons (eVar 3) aNil)) (τ := τ4) (h := k) (ts := [nI u, nI l]) (by rw [hτ4]; rfl)).trans (div_ok lb k))
  rw [Bool.not_not] at G
  have D : K66.m_is_weight = defM 10 4 K66.s_is_weight := rfl
  rw [D, iw_eq]
  refine defM_rt rfl ?_
  have e : startT 10 [T.ref n, nI m, nI u, nI l] = τ := by rw [hτ]; rfl
  rw [e]
  exact (seq_nx ((if_f C).trans rfl)).trans ((seq_nx S1).trans ((seq_nx S2).trans ((seq_nx S3).trans (ret_ok (hEand E fun _ => G)))))
end
end BG
namespace BG
open PySem L2 TL K58 K13 BD
section
variable {size : Nat} {rows : List (List Nat)} {mine its : List Nat}
theorem judge_ok {c p : T} {b : Bool} {h : VH} (e : K66.m_accepts [c, p] h = .ok (.bl b) h) : K66.m_law_judge [c, p, .bl b] h = .ok (.bl true) h := by
  have s1 : (sSet 3 (eL (aLim (aCons (eCall K66.m_accepts (aCons (eVar 0) (aCons (eVar 1) aNil))) (aCons (eCall K66.m_accepts (aPerm [1, 0] (aCons (eVar 1) (aCons (eVar 0) aNil)))) aNil))))) (startT 4 [c, p, .bl b]) h = .nx [some c, some p, some (.bl b), some (.lst [.bl b, .bl b])] h := by
    have a1 : eCall K66.m_accepts (aCons (eVar 0) (aCons (eVar 1) aNil)) (startT 4 [c, p, .bl b]) h = .ok (.bl b) h := (call_ok (ts := [c, p]) rfl).trans e
    have a2 : eCall K66.m_accepts (aPerm [1, 0] (aCons (eVar 1) (aCons (eVar 0) aNil))) (startT 4 [c, p, .bl b]) h = .ok (.bl b) h := (call_ok (ts := [c, p]) rfl).trans e
    have a3 : aLim (aCons (eCall K66.m_accepts (aCons (eVar 0) (aCons (eVar 1) aNil))) (aCons (eCall K66.m_accepts (aPerm [1, 0] (aCons (eVar 1) (aCons (eVar 0) aNil)))) aNil)) (startT 4 [c, p, .bl b]) h = .ok [.bl b, .bl b] h := by
      unfold aLim
      rw [cons_ok a1 (cons_ok a2 rfl)]
      rfl
    exact (set_ok (i := 3) (eL_ok a3)).trans rfl
  have r : fRepr [.lst [.bl b, .bl b]] h = .ok (.str (PyData.shown (.list [.bool b, .bool b]))) h := by
    have d : T.dat h 10 (.lst [.bl b, .bl b]) = some (.list [.bool b, .bool b]) := rfl
    simp only [fRepr, d]
    rw [if_pos]
    cases b <;> decide +kernel
  have D : K66.m_law_judge = defM 4 3 K66.s_law_judge := rfl
  rw [D]
  refine defM_rt rfl ((seq_nx s1).trans (ret_ok ?_))
  have r1 : eCall fRepr (aCons (eVar 3) aNil) [some c, some p, some (.bl b), some (.lst [.bl b, .bl b])] h = _ := (call_ok (ts := [.lst [.bl b, .bl b]]) rfl).trans r
  have r2 : eCall fRepr (aCons (eL (aLim (aCons (eVar 2) (aCons (eVar 2) aNil)))) aNil) [some c, some p, some (.bl b), some (.lst [.bl b, .bl b])] h = _ := (call_ok (ts := [.lst [.bl b, .bl b]]) rfl).trans r
  refine (op_ok (b := TL.bEq) r1 r2).trans ?_
  unfold TL.bEq bEqG
  simp only [dat_str, PyData.eqv, beq_self_eq_true]
end
end BG
namespace BG
open PySem L2 TL K58 K13 BD
theorem forL_end {rd : VH → Option (List T)} {g : MG} {body : MS} {ts : List T} (I : Nat → TS_ → VH → Prop) (R : T → VH → Prop) (hrd : ∀ i τ h, I i τ h → rd h = some ts)
    (hb : ∀ i (hi : i < ts.length) τ h, I i τ h → ∃ τ1 h1, g ts[i] τ h = .ok τ1 h1 ∧ ((∃ τ2 h2, (body τ1 h1 = .nx τ2 h2 ∨ body τ1 h1 = .ct τ2 h2) ∧ I (i + 1) τ2 h2) ∨ ∃ t h2, body τ1 h1 = .rt t h2 ∧ R t h2)) :
    ∀ k i τ h, i + k = ts.length → I i τ h → (∃ τ2 h2, forL rd g body ts.length k i τ h = .nx τ2 h2 ∧ I ts.length τ2 h2) ∨ ∃ t h2, forL rd g body ts.length k i τ h = .rt t h2 ∧ R t h2 := by
  intro k
  induction k with
  | zero =>
    intro i τ h hk hi
    have e : i = ts.length := by omega
    subst e
    refine .inl ⟨τ, h, ?_, hi⟩
    unfold forL
    simp only [hrd _ _ _ hi, if_true]
  | succ k ih =>
    intro i τ h hk hi
    have hlt : i < ts.length := by omega
    obtain ⟨τ1, h1, e1, c⟩ := hb i hlt τ h hi
    have st : forL rd g body ts.length (k + 1) i τ h = (match body τ1 h1 with
          | .nx τ2 h2 => forL rd g body ts.length k (i + 1) τ2 h2
          | .ct τ2 h2 => forL rd g body ts.length k (i + 1) τ2 h2
          | .bk τ2 h2 => .nx τ2 h2
          | o => o) := by
      show forL rd g body ts.length (k + 1) i τ h = _
      rw [forL]
      simp only [hrd _ _ _ hi, if_true, List.getElem?_eq_getElem hlt, e1]
      all_goals (cases body τ1 h1 <;> rfl)
    rw [st]
    rcases c with ⟨τ2, h2, e2, hi2⟩ | ⟨t, h2, e2, r⟩
    · have z := ih (i + 1) τ2 h2 (by omega) hi2
      rcases e2 with e2 | e2 <;> rw [e2] <;> exact z
    · rw [e2]
      exact .inr ⟨t, h2, rfl, r⟩
theorem sFor_end {mi : MI} {g : MG} {body : MS} {τ : TS_} {h h1 : VH} {rd : VH → Option (List T)} {ts : List T} (I : Nat → TS_ → VH → Prop) (R : T → VH → Prop) (hm : mi τ h = .ok rd h1) (h0 : I 0 τ h1) (hrd : ∀ i τ h, I i τ h → rd h = some ts)
    (hb : ∀ i (hi : i < ts.length) τ h, I i τ h → ∃ τ1 h1, g ts[i] τ h = .ok τ1 h1 ∧ ((∃ τ2 h2, (body τ1 h1 = .nx τ2 h2 ∨ body τ1 h1 = .ct τ2 h2) ∧ I (i + 1) τ2 h2) ∨ ∃ t h2, body τ1 h1 = .rt t h2 ∧ R t h2)) :
    (∃ τ2 h2, sFor mi g body τ h = .nx τ2 h2 ∧ I ts.length τ2 h2) ∨ ∃ t h2, sFor mi g body τ h = .rt t h2 ∧ R t h2 := by
  unfold sFor
  simp only [hm, hrd _ _ _ h0]
  exact forL_end I R hrd hb ts.length 0 τ h1 (by omega) h0
def gs : Nat → Nat → Nat → Prop
  | 0, _, _ => False
  | n + 1, a, b => b = 0 ∨ gs n b (a % b)
theorem gs_more : ∀ (n a b : Nat), gs n a b → gs (n + 1) a b
  | 0, _, _, h => h.elim
  | n + 1, a, b, h => h.imp id (gs_more n b (a % b))
theorem gs_le {n m a b : Nat} (h : gs n a b) (le : n ≤ m) : gs m a b := by
  induction le with
  | refl => exact h
  | step _ ih => exact gs_more _ _ _ ih
theorem gs_ok : ∀ (k a b : Nat), b < 2 ^ k → gs (2 * k + 1) a b
  | 0, a, b, lt => .inl (by simp at lt; exact lt)
  | k + 1, a, b, lt => by
    by_cases b0 : b = 0
    · exact .inl b0
    · have bp : 0 < b := by omega
      refine .inr ?_
      by_cases r0 : a % b = 0
      · exact .inl r0
      · have rp : 0 < a % b := by omega
        have l1 := Nat.mod_lt b rp
        have l2 := Nat.mod_lt a bp
        have l3 : b % (a % b) + (a % b) ≤ b := by
          have e := Nat.mod_add_div b (a % b)
          have q : 1 ≤ b / (a % b) := (Nat.one_le_div_iff rp).mpr (by omega)
          have m : (a % b) * 1 ≤ (a % b) * (b / (a % b)) := Nat.mul_le_mul_left _ q
          omega
        refine .inr (gs_ok k (a % b) (b % (a % b)) ?_)
        rw [Nat.pow_succ] at lt
        omega
def lcB : MS := (sSeq (sIf (bTest (eOp TL.bEq (eVar 1) (eK (.int 0)))) (sRet (eVar 0)) sNil) (sPar 0 1 (aCons (eVar 1) (aCons (eOp TL.bMod (eCall fInt (aCons (eVar 0) aNil)) (eVar 1)) aNil))))
theorem lc_eq : K66.s_law_common = sSeq (sFor (iRange1 (aCons (eK (.int 400)) aNil)) (mgName 2) lcB) (sRet (eVar 0)) := rfl
theorem common_ok {a b : Nat} (hb : b < 2 ^ 150) (h : VH) : K66.m_law_common [nI a, nI b] h = .ok (nI (Nat.gcd a b)) h := by
  have D : K66.m_law_common = defM 3 2 K66.s_law_common := rfl
  rw [D, lc_eq]
  rcases sFor_end (mi := iRange1 (aCons (eK (.int 400)) aNil)) (g := mgName 2) (body := lcB) (τ := startT 3 [nI a, nI b]) (h := h) (h1 := h) (rd := fun _ => some (rangeT 0 400)) (ts := rangeT 0 400)
    (fun i τ h' => h' = h ∧ ∃ (x y : Nat) (c : Option T), τ = [some (nI x), some (nI y), c] ∧ gs (400 - i) x y ∧ Nat.gcd x y = Nat.gcd a b) (fun t h' => t = nI (Nat.gcd a b) ∧ h' = h)
    (rngk (K := 400) rfl (by omega)) ⟨rfl, a, b, none, rfl, gs_le (gs_ok 150 a b hb) (by omega), rfl⟩ (fun _ _ _ _ => rfl) (fun i hi τ h' J => by
      obtain ⟨rfl, x, y, c, rfl, q, e⟩ := J
      rw [range_len] at hi
      obtain ⟨j, hj⟩ : ∃ j, 400 - i = j + 1 := ⟨400 - i - 1, by omega⟩
      rw [hj] at q
      obtain ⟨w, hw⟩ : ∃ w : Option T, w = some (rangeT 0 400)[i] := ⟨_, rfl⟩
      obtain ⟨τ1, hτ⟩ : ∃ τ1, τ1 = [some (nI x), some (nI y), w] := ⟨_, rfl⟩
      refine ⟨τ1, h', by rw [hτ, hw]; rfl, ?_⟩
      have v0 : eVar 0 τ1 h' = .ok (nI x) h' := by rw [hτ]; rfl
      have v1 : eVar 1 τ1 h' = .ok (nI y) h' := by rw [hτ]; rfl
      have C := test_ok ((op_ok (b := TL.bEq) v1 (rfl : eK (.int 0) τ1 h' = .ok (.int 0) h')).trans (hEq _ _ h'))
      by_cases y0 : y = 0
      · rw [decide_eq_true (by omega)] at C
        refine .inr ⟨nI x, h', seq_rt ((if_t C).trans (ret_ok v0)), ?_, rfl⟩
        rw [← e, y0, Nat.gcd_zero_right]
      · rw [decide_eq_false (by omega)] at C
        have In := (call_ok (b := fInt) (cons_ok v0 (rfl : aNil τ1 h' = .ok [] h'))).trans (rfl : fInt [nI x] h' = .ok (nI x) h')
        have A := (op_ok (b := TL.bMod) In v1).trans (hMod (by omega) h')
        refine .inl ⟨[some (nI y), some (nI (x % y)), w], h', .inl ((seq_nx ((if_f C).trans rfl)).trans ?_), rfl, y, x % y, w, rfl, ?_, ?_⟩
        · unfold sPar
          rw [cons_ok v1 (cons_ok A (rfl : aNil τ1 h' = .ok [] h')), hτ]
          rfl
        · have : 400 - (i + 1) = j := by omega
          rw [this]
          rcases q with q | q
          · exact absurd q y0
          · exact q
        · rw [← e, Nat.gcd_comm x y, Nat.gcd_rec y x, Nat.gcd_comm]) with ⟨τ2, h2, z, rfl, x, y, c, rfl, q, e⟩ | ⟨t, h2, z, rfl, rfl⟩
  · rw [range_len] at q
    exact q.elim
  · exact defM_rt rfl (seq_rt z)
def ltC : MB := (bTest (eOp TL.bEq (eL (mLc (iSeqC (eOp TL.bIx (eOp TL.bIx (eVar 0) (eK (.int 1))) (eVar 2))) [3] (mgName 3) (bTest (eOp TL.bIn (eVar 3) (eOp TL.bIx (eVar 0) (eK (.int 3))))) (eVar 3))) (eL (aLim aNil))))
def ltA : MS := (sExpr (eMt "list" mAppend (eVar 1) (aCons (eTup (aCons (eVar 2) (aCons (eCall fTuple (aCons (eL (mLc (iSeqC (eOp TL.bIx (eOp TL.bIx (eVar 0) (eK (.int 1))) (eVar 2))) [3] (mgName 3) (bTest (eOp TL.bNin (eVar 3) (eOp TL.bIx (eVar 0) (eK (.int 2))))) (eVar 3))) aNil)) aNil))) aNil)))
theorem lt_eq : K66.s_law_lots = sSeq (sSet 1 (eH (aLim aNil))) (sSeq (sFor (iRange1 (aCons (eCall fLen (aCons (eOp TL.bIx (eVar 0) (eK (.int 1))) aNil)) aNil)) (mgName 2) (sIf ltC ltA sNil)) (sRet (eVar 1))) := rfl
section
variable {size : Nat} {rows : List (List Nat)} {mine its : List Nat}
theorem iseq_line {f : ME} {τ : TS_} {h : VH} {l : List Nat} (e : f τ h = .ok (lineT l) h) : iSeqC f τ h = .ok (fun h => seqS h (.lst (l.map nI))) h := by
  unfold iSeqC
  rw [e]
  rfl
theorem live_none (l its : List Nat) : (l.filter fun x => decide (x ∈ its)).isEmpty = liveB its l := by
  unfold liveB
  induction l with
  | nil => rfl
  | cons x l ih =>
    rw [List.filter_cons, List.any_cons]
    cases decide (x ∈ its)
    · simpa using ih
    · rfl
theorem llots_ok (R : Rows size rows) (h : VH) : K66.m_law_lots [frameT size rows mine its] h = .ok (.ref h.length) (h ++ [.lst ((prs mine its 0 rows).map prT)]) := by
  have rl := R.len
  obtain ⟨F, hF⟩ : ∃ F, F = frameT size rows mine its := ⟨_, rfl⟩
  have S1 : sSet 1 (eH (aLim aNil)) (startT 4 [F]) h = .nx [some F, some (.ref h.length), none, none] (h ++ [VO.lst []]) := rfl
  have mi : iRange1 (aCons (eCall fLen (aCons (eOp TL.bIx (eVar 0) (eK (.int 1))) aNil)) aNil) [some F, some (.ref h.length), none, none] (h ++ [VO.lst []]) = .ok (fun _ => some (rangeT 0 rows.length)) (h ++ [VO.lst []]) := by
    refine rngk (cons_ok ?_ (rfl : aNil _ _ = .ok [] _)) (by omega)
    have := hLenT (ts := rows.map lineT) (f := eOp TL.bIx (eVar 0) (eK (.int 1))) (τ := [some F, some (.ref h.length), none, none]) (h := h ++ [VO.lst []]) (by rw [hF]; rfl)
    rw [List.length_map] at this
    exact this
  obtain ⟨τ', h', z, ⟨a, b, rfl⟩, rfl⟩ := sFor_inv (mi := iRange1 (aCons (eCall fLen (aCons (eOp TL.bIx (eVar 0) (eK (.int 1))) aNil)) aNil)) (g := mgName 2) (body := sIf ltC ltA sNil) (τ := [some F, some (.ref h.length), none, none]) (h := h ++ [VO.lst []]) (h1 := h ++ [VO.lst []]) (rd := fun _ => some (rangeT 0 rows.length)) (ts := rangeT 0 rows.length)
    (fun i τ h' => (∃ (a b : Option T), τ = [some F, some (.ref h.length), a, b]) ∧ h' = h ++ [VO.lst ((prs mine its 0 (rows.take i)).map prT)]) mi ⟨⟨none, none, rfl⟩, rfl⟩ (fun _ _ _ _ => rfl) (fun i hi τ h' J => by
      obtain ⟨⟨a, b, rfl⟩, e'⟩ := J
      obtain ⟨hi2, ei⟩ := range_at hi
      rw [ei, Int.zero_add, List.take_succ_eq_append_getElem hi2, prs_snoc, List.length_take, Nat.min_eq_left (by omega), Nat.zero_add]
      have ix : atI (rows.map lineT) ((i : Nat) : Int) = some (lineT rows[i]) := by rw [ix_nn (by omega) (by rw [List.length_map]; omega), Int.toNat_natCast, List.getElem?_map, List.getElem?_eq_getElem hi2]; rfl
      obtain ⟨l, hl⟩ : ∃ l, l = rows[i] := ⟨_, rfl⟩
      have sl : l.length ≤ 30 := by
        have := (R.line rows[i] (List.getElem_mem hi2)).len
        have := R.s1
        rw [hl]
        omega
      rw [← hl] at ix ⊢
      obtain ⟨τ1, hτ⟩ : ∃ τ1 : TS_, τ1 = [some F, some (.ref h.length), some (nI i), b] := ⟨_, rfl⟩
      have v1 : eVar 1 τ1 h' = .ok (.ref h.length) h' := by rw [hτ]; rfl
      have v2 : eVar 2 τ1 h' = .ok (nI i) h' := by rw [hτ]; rfl
      have row : eOp TL.bIx (eOp TL.bIx (eVar 0) (eK (.int 1))) (eVar 2) τ1 h' = .ok (lineT l) h' := by
        refine (op_ok (b := TL.bIx) (by rw [hτ, hF]; rfl : eOp TL.bIx (eVar 0) (eK (.int 1)) τ1 h' = .ok (restsT rows) h') v2).trans ?_
        unfold restsT TL.bIx
        simp only [TL.listOf, ix]
      have F1 := filt_ok nI l (fun x => decide (x ∈ its)) (f := eOp TL.bIx (eOp TL.bIx (eVar 0) (eK (.int 1))) (eVar 2)) (c := bTest (eOp TL.bIn (eVar 3) (eOp TL.bIx (eVar 0) (eK (.int 3))))) (j := 3) (τ := τ1) (h := h') (iseq_line row) (by omega) (fun x _ => test_ok ((op_ok (b := TL.bIn) (by rw [hτ]; rfl : eVar 3 _ h' = .ok (nI x) h') (by rw [hτ, hF]; rfl : eOp TL.bIx (eVar 0) (eK (.int 3)) _ h' = .ok (lineT its) h')).trans (in_line x its h'))) (fun t => by rw [hτ]; rfl)
      have F2 := filt_ok nI l (fun x => !decide (x ∈ mine)) (f := eOp TL.bIx (eOp TL.bIx (eVar 0) (eK (.int 1))) (eVar 2)) (c := bTest (eOp TL.bNin (eVar 3) (eOp TL.bIx (eVar 0) (eK (.int 2))))) (j := 3) (τ := τ1) (h := h') (iseq_line row) (by omega) (fun x _ => test_ok ((op_ok (b := TL.bNin) (by rw [hτ]; rfl : eVar 3 _ h' = .ok (nI x) h') (by rw [hτ, hF]; rfl : eOp TL.bIx (eVar 0) (eK (.int 2)) _ h' = .ok (lineT mine) h')).trans (nin_line x mine h'))) (fun t => by rw [hτ]; rfl)
      have C : ltC τ1 h' = .ok ((l.filter fun x => decide (x ∈ its)).isEmpty) h' := test_ok ((op_ok (b := TL.bEq) F1 (rfl : eL (aLim aNil) τ1 h' = .ok (.lst []) h')).trans (eq_nilI _ h'))
      rw [live_none] at C
      have g : mgName 2 (nI i) [some F, some (.ref h.length), a, b] h' = .ok τ1 h' := by rw [hτ]; rfl
      by_cases q : liveB its l = true
      · rw [q] at C
        have tt : eTup (aCons (eVar 2) (aCons (eCall fTuple (aCons (eL (mLc (iSeqC (eOp TL.bIx (eOp TL.bIx (eVar 0) (eK (.int 1))) (eVar 2))) [3] (mgName 3) (bTest (eOp TL.bNin (eVar 3) (eOp TL.bIx (eVar 0) (eK (.int 2))))) (eVar 3))) aNil)) aNil)) τ1 h' = .ok (prT (i, restL mine l)) h' := by
          unfold eTup
          rw [cons_ok v2 (cons_ok (tupLine F2) (rfl : aNil τ1 h' = .ok [] h'))]
          rfl
        have at_ : h'[h.length]? = some (.lst ((prs mine its 0 (rows.take i)).map prT)) := by rw [e']; simp
        have ln := pr_low mine its (rows.take i)
        rw [List.length_take] at ln
        have P := BD.app_ok (f := eVar 1) (g := _) at_ (by rw [List.length_map]; omega) v1 tt
        refine ⟨τ1, h', τ1, _, g, .inl ((if_t C).trans P), ⟨_, _, hτ⟩, ?_⟩
        rw [if_pos q, e', List.map_append]
        simp
      · rw [Bool.not_eq_true] at q
        rw [q] at C
        refine ⟨τ1, h', τ1, h', g, .inl ((if_f C).trans rfl), ⟨_, _, hτ⟩, ?_⟩
        rw [if_neg (by rw [q]; exact Bool.false_ne_true), List.append_nil]
        exact e')
  rw [range_len, List.take_length] at z
  have D : K66.m_law_lots = defM 4 1 K66.s_law_lots := rfl
  rw [D, lt_eq, ← hF]
  exact defM_rt rfl ((seq_nx S1).trans ((seq_nx z).trans (ret_ok rfl)))
end
end BG
namespace BG
open PySem L2 TL K58 K13 BD
theorem powU {m i : Nat} : (((m + 1) ^ i : Nat) : Int) * ((m : Int) + 1) = (((m + 1) ^ (i + 1) : Nat) : Int) := by
  rw [Nat.pow_succ, Int.natCast_mul]
  rfl
section
variable {size : Nat} {rows : List (List Nat)} {mine its : List Nat}
abbrev heavyT (m : Nat) (rs : List (List Nat)) : T := .tup [nI (wsum m (lng rs) rs / Nat.gcd (wsum m (lng rs) rs) ((m + 1) ^ lng rs)), nI ((m + 1) ^ lng rs / Nat.gcd (wsum m (lng rs) rs) ((m + 1) ^ lng rs))]
theorem same_ok (R : Rows size rows) {m : Nat} : wT m (freeL size mine its).length (restsL rows mine its) = heavyT m (restsL rows mine its) := by
  have le : lng (restsL rows mine its) ≤ (freeL size mine its).length := lng_le fun r hr => rest_le R hr
  obtain ⟨n, hn⟩ : ∃ n, n = (freeL size mine its).length := ⟨_, rfl⟩
  obtain ⟨rs, hrs⟩ : ∃ rs, rs = restsL rows mine its := ⟨_, rfl⟩
  rw [← hn, ← hrs] at le ⊢
  have ge : ∀ r ∈ rs, r.length ≤ lng rs := fun r hr => lng_ge hr
  obtain ⟨M, hM⟩ : ∃ M, M = lng rs := ⟨_, rfl⟩
  rw [← hM] at le ge
  have f := Frac.of (X := wsum m M rs) (Y := (m + 1) ^ M) (Nat.pow_pos (by omega))
  have pw : (m + 1) ^ n = (m + 1) ^ M * (m + 1) ^ (n - M) := by rw [← Nat.pow_add]; congr 1; omega
  have ws : wsum m n rs = wsum m M rs * (m + 1) ^ (n - M) := by
    unfold wsum
    clear f hrs hM
    induction rs with
    | nil => simp
    | cons r rs ih =>
      have lr := ge r List.mem_cons_self
      have e : (m + 1) ^ (n - r.length) = (m + 1) ^ (M - r.length) * (m + 1) ^ (n - M) := by rw [← Nat.pow_add]; congr 1; omega
      rw [List.map_cons, List.map_cons, List.sum_cons, List.sum_cons, ih fun x hx => ge x (List.mem_cons_of_mem _ hx), Nat.add_mul, e]
  have f2 : Frac (wsum m n rs) ((m + 1) ^ n) (wsum m M rs / Nat.gcd (wsum m M rs) ((m + 1) ^ M)) ((m + 1) ^ M / Nat.gcd (wsum m M rs) ((m + 1) ^ M)) := by
    refine ⟨?_, f.cop, f.pos⟩
    rw [pw, ws, ← Nat.mul_assoc, f.eq, Nat.mul_right_comm]
  obtain ⟨h1, h2⟩ := f2.uniq (Nat.pow_pos (by omega))
  unfold wT heavyT
  rw [← h1, ← h2, hM]
end
end BG
namespace BG
open PySem L2 TL K58 K13 BD
section
variable {size : Nat} {rows : List (List Nat)} {mine its : List Nat}
def no : MS := (sRet (eK (.bl false)))
def i1 : MS := (sPar 6 7 (aCons (eCall K66.m_certify_weight (aCons (eVar 4) (aCons (eVar 5) aNil))) (aCons (eCall K66.m_law_heavy (aCons (eVar 3) (aCons (eVar 5) aNil))) aNil)))
def o2 : MS := (sSet 2 (eCall K58.m_law_of (aCons (eVar 0) (aCons (eL (aLim (aCons (eK (.int 1)) (aCons (eK (.int 3)) (aCons (eK (.int 9)) (aCons (eK (.int 30)) aNil)))))) aNil))))
end
theorem ofN_ok {n : Nat} {h : VH} (I : Iv n h) (l : List Nat) (h0 : 0 < l.length) (h1 : l.length < 1000) : ∃ x ∈ l, ∃ o, K58.m_law_of [.ref n, .lst (l.map nI)] h = .ok (nI x) (h.set n o) ∧ IsB o := by
  obtain ⟨r, hr, o, e, io⟩ := of1_ok (ts := l.map nI) I (by rw [List.length_map]; exact h0) (by rw [List.length_map]; omega)
  rw [List.length_map] at hr
  rw [List.getElem_map] at e
  exact ⟨l[r], List.getElem_mem hr, o, e, io⟩
end BG
namespace WJ
open PySem L2 TL K58 K13 BD BG
section
variable {size : Nat} {rows : List (List Nat)} {mine its : List Nat}
def hI : MS := (sSet 6 (eOp TL.bMul (eVar 6) (eOp TL.bAdd (eVar 1) (eK (.int 1)))))
def hP1 : MS := (sPar 2 3 (aCons (eOp TL.bAdd (eOp TL.bMul (eVar 2) (eVar 6)) (eVar 3)) (aCons (eOp TL.bMul (eVar 3) (eVar 6)) aNil)))
def hC : MS := (sSet 8 (eCall K66.m_law_common (aCons (eVar 2) (aCons (eVar 3) aNil))))
def hP2 : MS := (sPar 2 3 (aCons (eOp bFdvW (eVar 2) (eVar 8)) (aCons (eOp bFdvW (eVar 3) (eVar 8)) aNil)))
def hB : MS := (sSeq (sSet 6 (eK (.int 1))) (sSeq (sFor (iSeqC (eVar 5)) (mgName 7) hI) (sSeq hP1 (sSeq hC hP2))))
def hA : MS := (sAsg (eTup (aCons (eK (.int 0)) (aCons (eK (.int 1)) aNil))) (mgTup 2 (mgsCons (mgName 2) (mgsCons (mgName 3) mgsNil))))
theorem hv_eq : K54.s_law_heavy = sSeq hA (sSeq (sFor (iSeqC (eCall K66.m_law_lots (aCons (eVar 0) aNil))) (mgTup 2 (mgsCons (mgName 4) (mgsCons (mgName 5) mgsNil))) hB) (sRet (eTup (aCons (eVar 2) (aCons (eVar 3) aNil))))) := rfl
abbrev hF (F : T) (m u l : Nat) (a4 a5 a6 a7 a8 : Option T) : TS_ := [some F, some (nI m), some (nI u), some (nI l), a4, a5, a6, a7, a8]
theorem hI_ok {F : T} {m u l : Nat} (hm : m ≤ 9) (r : List Nat) (hr : r.length ≤ 5) (a4 a7 a8 : Option T) (h : VH) :
    ∃ b7, sFor (iSeqC (eVar 5)) (mgName 7) hI (hF F m u l a4 (some (lineT r)) (some (nI 1)) a7 a8) h = .nx (hF F m u l a4 (some (lineT r)) (some (nI ((m + 1) ^ r.length))) b7 a8) h := by
  obtain ⟨τ', h', z, ⟨b7, rfl⟩, rfl⟩ := sFor_inv (mi := iSeqC (eVar 5)) (g := mgName 7) (body := hI) (τ := hF F m u l a4 (some (lineT r)) (some (nI 1)) a7 a8) (h := h) (h1 := h) (rd := fun h => seqS h (lineT r)) (ts := r.map nI)
    (fun i τ h' => (∃ b7, τ = hF F m u l a4 (some (lineT r)) (some (nI ((m + 1) ^ i))) b7 a8) ∧ h' = h) rfl ⟨⟨a7, by simp⟩, rfl⟩ (fun _ _ _ _ => rfl) (fun i hi τ h' J => by
      obtain ⟨⟨b7, rfl⟩, rfl⟩ := J
      rw [List.length_map] at hi
      refine ⟨hF F m u l a4 (some (lineT r)) (some (nI ((m + 1) ^ i))) (some (r.map nI)[i]) a8, h', hF F m u l a4 (some (lineT r)) (some (nI ((m + 1) ^ (i + 1)))) (some (r.map nI)[i]) a8, h', rfl, .inl ?_, ⟨_, rfl⟩, rfl⟩
      have A := (op_ok (b := TL.bAdd) (rfl : eVar 1 (hF F m u l a4 (some (lineT r)) (some (nI ((m + 1) ^ i))) (some (r.map nI)[i]) a8) h' = .ok (nI m) h') (rfl : eK (.int 1) _ h' = .ok (.int 1) h')).trans (hAdd _ _ h')
      have p := (pow5 (n := i) hm (by omega)).2
      have B := (op_ok (b := TL.bMul) (rfl : eVar 6 (hF F m u l a4 (some (lineT r)) (some (nI ((m + 1) ^ i))) (some (r.map nI)[i]) a8) h' = .ok (nI ((m + 1) ^ i)) h') A).trans (bMulL (by omega) (by omega) h')
      rw [powU] at B
      exact (set_ok (i := 6) B).trans rfl)
  rw [List.length_map] at z
  exact ⟨b7, z⟩
theorem hB_ok {F : T} {m u l X Y q : Nat} (hm : m ≤ 9) {r : List Nat} (hr : r.length ≤ 5) (f : Frac X Y u l) (hY : 0 < Y) (hYb : Y ≤ 100000) (hX : X ≤ 3000000) (hq : q * (m + 1) ^ r.length = Y) (a4 a6 a7 a8 : Option T) (h : VH) :
    ∃ (u' l' : Nat) (b6 b7 b8 : Option T), hB (hF F m u l a4 (some (lineT r)) a6 a7 a8) h = .nx (hF F m u' l' a4 (some (lineT r)) b6 b7 b8) h ∧ Frac (X + q) Y u' l' := by
  obtain ⟨p0, p1⟩ := pow5 (n := r.length) hm hr
  obtain ⟨b7, z⟩ := hI_ok (F := F) (u := u) (l := l) hm r hr a4 a7 a8 h
  obtain ⟨p, hp⟩ : ∃ p, p = (m + 1) ^ r.length := ⟨_, rfl⟩
  rw [← hp] at z p1 p0 hq
  have st := f.step p0 hq
  obtain ⟨g, hg⟩ : ∃ g, g = Nat.gcd (u * p + l) (l * p) := ⟨_, rfl⟩
  rw [← hg] at st
  obtain ⟨eu, el⟩ := f.uniq hY
  have lb : l ≤ Y := by rw [el]; exact Nat.div_le_self _ _
  have ub : u ≤ X := by rw [eu]; exact Nat.div_le_self _ _
  have Lp : 0 < l * p := Nat.mul_pos f.pos p0
  have ui : (-1000000000000 : Int) < (u : Nat) ∧ ((u : Nat) : Int) < 1000000000000 := by omega
  have li : (-1000000000000 : Int) < (l : Nat) ∧ ((l : Nat) : Int) < 1000000000000 := by omega
  have up : u * p ≤ 3000000 * 100000 := Nat.mul_le_mul (by omega) p1
  have lp : l * p ≤ 100000 * 100000 := Nat.mul_le_mul (by omega) p1
  have gp : 0 < g := by rw [hg]; exact Nat.gcd_pos_of_pos_right _ Lp
  have gb : g ≤ l * p := by rw [hg]; exact Nat.gcd_le_right _ Lp
  have big : (100000 * 100000 : Nat) < 2 ^ 150 := by decide
  have big4 : (100000 * 100000 : Nat) < 2 ^ 400 := Nat.lt_trans big (Nat.pow_lt_pow_right (by decide) (by decide))
  have gl : g < 2 ^ 400 := Nat.lt_of_le_of_lt (Nat.le_trans gb lp) big4
  clear big4
  have e1 : (u : Int) * (p : Nat) + (l : Nat) = ((u * p + l : Nat) : Int) := by rw [Int.natCast_add, Int.natCast_mul]
  have e2 : (l : Int) * (p : Nat) = ((l * p : Nat) : Int) := by rw [Int.natCast_mul]
  have s3 : hP1 (hF F m u l a4 (some (lineT r)) (some (nI p)) b7 a8) h = .nx (hF F m (u * p + l) (l * p) a4 (some (lineT r)) (some (nI p)) b7 a8) h := by
    obtain ⟨τ, hτ⟩ : ∃ τ, τ = hF F m u l a4 (some (lineT r)) (some (nI p)) b7 a8 := ⟨_, rfl⟩
    rw [← hτ]
    have v2 : eVar 2 τ h = .ok (nI u) h := by rw [hτ]; rfl
    have v3 : eVar 3 τ h = .ok (nI l) h := by rw [hτ]; rfl
    have v6 : eVar 6 τ h = .ok (nI p) h := by rw [hτ]; rfl
    have A := (op_ok (b := TL.bAdd) ((op_ok (b := TL.bMul) v2 v6).trans (bMulL ui.1 ui.2 h)) v3).trans (hAdd _ _ h)
    have B := (op_ok (b := TL.bMul) v3 v6).trans (bMulL li.1 li.2 h)
    rw [e1] at A
    rw [e2] at B
    unfold hP1 sPar
    rw [cons_ok A (cons_ok B (rfl : aNil τ h = .ok [] h)), hτ]
    rfl
  have s4 : hC (hF F m (u * p + l) (l * p) a4 (some (lineT r)) (some (nI p)) b7 a8) h = .nx (hF F m (u * p + l) (l * p) a4 (some (lineT r)) (some (nI p)) b7 (some (nI g))) h := by
    rw [hg]
    exact (set_ok (i := 8) ((call_ok (b := K66.m_law_common) (ts := [nI (u * p + l), nI (l * p)]) rfl).trans (common_ok (Nat.lt_of_le_of_lt lp big) h))).trans rfl
  have s5 : hP2 (hF F m (u * p + l) (l * p) a4 (some (lineT r)) (some (nI p)) b7 (some (nI g))) h = .nx (hF F m ((u * p + l) / g) (l * p / g) a4 (some (lineT r)) (some (nI p)) b7 (some (nI g))) h := by
    obtain ⟨τ, hτ⟩ : ∃ τ, τ = hF F m (u * p + l) (l * p) a4 (some (lineT r)) (some (nI p)) b7 (some (nI g)) := ⟨_, rfl⟩
    rw [← hτ]
    have w2 : eVar 2 τ h = .ok (nI (u * p + l)) h := by rw [hτ]; rfl
    have w3 : eVar 3 τ h = .ok (nI (l * p)) h := by rw [hτ]; rfl
    have w8 : eVar 8 τ h = .ok (nI g) h := by rw [hτ]; rfl
    have C := (op_ok (b := bFdvW) w2 w8).trans (hFdv gp gl h)
    have D := (op_ok (b := bFdvW) w3 w8).trans (hFdv gp gl h)
    unfold hP2 sPar
    rw [cons_ok C (cons_ok D (rfl : aNil τ h = .ok [] h)), hτ]
    rfl
  exact ⟨_, _, _, _, _, (seq_nx (rfl : sSet 6 (eK (.int 1)) (hF F m u l a4 (some (lineT r)) a6 a7 a8) h = .nx (hF F m u l a4 (some (lineT r)) (some (nI 1)) a7 a8) h)).trans ((seq_nx z).trans ((seq_nx s3).trans ((seq_nx s4).trans s5))), st⟩
theorem heavy_ok (R : Rows size rows) (five : ∀ l ∈ rows, l.length ≤ 5) {m : Nat} (m9 : m ≤ 9) {h : VH} (hl : h.all (VO.lowR h.length) = true) : K54.m_law_heavy [frameT size rows mine its, nI m] h = .ok (heavyT m (restsL rows mine its)) h := by
  have LO := llots_ok (mine := mine) (its := its) R h
  have r5 : ∀ r ∈ restsL rows mine its, r.length ≤ 5 := fun r hr => rests5 five hr
  have rl := rests_len (mine := mine) (its := its) R
  have sn := prs_snd mine its rows 0
  obtain ⟨ps, hps⟩ : ∃ ps, ps = prs mine its 0 rows := ⟨_, rfl⟩
  obtain ⟨rs, hrs⟩ : ∃ rs, rs = restsL rows mine its := ⟨_, rfl⟩
  rw [← hps] at LO sn
  rw [← hrs] at r5 rl sn ⊢
  obtain ⟨F, hF'⟩ : ∃ F, F = frameT size rows mine its := ⟨_, rfl⟩
  rw [← hF'] at LO ⊢
  have pl : ps.length = rs.length := by rw [← sn, List.length_map]
  obtain ⟨L, hL⟩ : ∃ L, L = h.length := ⟨_, rfl⟩
  obtain ⟨k, hk⟩ : ∃ k, k = h ++ [VO.lst (ps.map prT)] := ⟨_, rfl⟩
  have at_ : seqS k (.ref L) = some (ps.map prT) := by
    have : k[L]? = some (.lst (ps.map prT)) := by rw [hk, hL]; simp
    show TL.listOf k (.ref L) = _
    unfold TL.listOf
    simp only [this]
  have tk : k.take h.length = h := by rw [hk, List.take_left]
  rw [← hk, ← hL] at LO
  have M5 := lng_le r5
  have W3 : ∀ i, wsum m (lng rs) (rs.take i) ≤ 3000000 := fun i => by
    have a : ∀ F, wsum m F (rs.take i) ≤ wsum m F rs := fun F => by
      have e : wsum m F rs = wsum m F (rs.take i) + wsum m F (rs.drop i) := by
        conv => lhs; rw [← List.take_append_drop i rs]
        unfold wsum
        rw [List.map_append, List.sum_append]
      omega
    have a := a (lng rs)
    have b := wsum_le m9 r5 rl
    omega
  unfold heavyT
  have gM : ∀ r ∈ rs, r.length ≤ lng rs := fun r hr => lng_ge hr
  obtain ⟨M, hM⟩ : ∃ M, M = lng rs := ⟨_, rfl⟩
  rw [← hM] at M5 W3 gM ⊢
  obtain ⟨pM0, pM1⟩ := pow5 (n := M) m9 M5
  have mi : iSeqC (eCall K66.m_law_lots (aCons (eVar 0) aNil)) (hF F m 0 1 none none none none none) h = .ok (fun h => seqS h (.ref L)) k := iseq_ok (t := .ref L) ((call_ok (b := K66.m_law_lots) (ts := [F]) rfl).trans LO) (by unfold walkable; rw [at_]; rfl)
  obtain ⟨τ', h', S4, ⟨u, l, a4, a5, a6, a7, a8, rfl, f⟩, rfl⟩ := sFor_inv (mi := iSeqC (eCall K66.m_law_lots (aCons (eVar 0) aNil))) (g := mgTup 2 (mgsCons (mgName 4) (mgsCons (mgName 5) mgsNil))) (body := hB) (τ := hF F m 0 1 none none none none none) (h := h) (h1 := k) (rd := fun h => seqS h (.ref L)) (ts := ps.map prT)
    (fun i τ h' => (∃ u l a4 a5 a6 a7 a8, τ = hF F m u l a4 a5 a6 a7 a8 ∧ Frac (wsum m M (rs.take i)) ((m + 1) ^ M) u l) ∧ h' = k) mi ⟨⟨0, 1, none, none, none, none, none, rfl, Frac.begin⟩, rfl⟩ (fun _ _ _ J => by rw [J.2]; exact at_) (fun i hi τ h' J => by
      obtain ⟨⟨u, l, a4, a5, a6, a7, a8, rfl, f⟩, rfl⟩ := J
      rw [List.length_map] at hi
      have hi2 : i < rs.length := by omega
      have ei : (ps.map prT)[i]'(by rw [List.length_map]; exact hi) = .tup [nI ps[i].1, lineT rs[i]] := by
        rw [List.getElem_map]
        have : rs[i] = ps[i].2 := by
          have : (ps.map Prod.snd)[i]? = rs[i]? := by rw [sn]
          rw [List.getElem?_map, List.getElem?_eq_getElem hi, List.getElem?_eq_getElem hi2] at this
          exact (Option.some.inj this).symm
        rw [this]
      rw [ei]
      have lr := gM rs[i] (List.getElem_mem hi2)
      obtain ⟨u', l', b6, b7, b8, e, f'⟩ := hB_ok (F := F) (q := (m + 1) ^ (M - rs[i].length)) m9 (r5 _ (List.getElem_mem hi2)) f pM0 pM1 (W3 i) (by rw [← Nat.pow_add]; congr 1; omega) (some (nI ps[i].1)) a6 a7 a8 h'
      refine ⟨_, h', _, h', rfl, .inl e, ⟨_, _, _, _, _, _, _, rfl, ?_⟩, rfl⟩
      rw [wsum_take hi2]
      exact f')
  rw [List.length_map, pl, List.take_length] at f
  obtain ⟨e1, e2⟩ := f.uniq pM0
  rw [← e1, ← e2]
  have In : defM 9 2 K54.s_law_heavy [F, nI m] h = .ok (.tup [nI u, nI l]) h' := by
    rw [hv_eq]
    exact defM_rt rfl ((seq_nx (rfl : hA (startT 9 [F, nI m]) h = .nx (hF F m 0 1 none none none none none) h)).trans ((seq_nx S4).trans (ret_ok rfl)))
  have D : K54.m_law_heavy = cutM (defM 9 2 K54.s_law_heavy) := rfl
  rw [D]
  unfold cutM
  rw [In]
  simp only [tk, hl, if_true]
  rfl
end
end WJ
namespace WJ
open PySem L2 TL K58 K13 BD BG
section
variable {size : Nat} {rows : List (List Nat)} {mine its : List Nat}
def whole : T → Bool | .int _ => true | _ => false
def plain : T → Bool | .non | .bl _ | .int _ | .str _ | .tup _ => true | _ => false
theorem whole_ok {t : T} (p : plain t = true) (h : VH) : m_is_whole [t] h = .ok (.bl (whole t)) h := by
  cases t <;> first | rfl | cases p
abbrev isF (s a b c : T) : TS_ := startT 10 [s, a, b, c]
theorem all_whole {s a b c : T} (p : [a, b, c].all plain = true) (k : VH) : bTest (eCall fAll (aCons (eL (mLc (iSeqC (eTup (aCons (eVar 1) (aCons (eVar 2) (aCons (eVar 3) aNil))))) [4] (mgName 4) bYes (eCall m_is_whole (aCons (eVar 4) aNil)))) aNil)) (isF s a b c) k = .ok ([a, b, c].all whole) k := by
  have z1 := mLc_map (mi := iSeqC (eTup (aCons (eVar 1) (aCons (eVar 2) (aCons (eVar 3) aNil))))) (ws := [4]) (g := mgName 4) (e := eCall m_is_whole (aCons (eVar 4) aNil)) (τ := isF s a b c) (h := k) (ts := [a, b, c]) (iseq_ok (t := .tup [a, b, c]) rfl rfl) rfl (by simp)
    (fun t => .bl (whole t)) (fun t ht => by
      refine ⟨(wipeT (isF s a b c) [4]).set 4 (some t), rfl, ?_⟩
      exact (call_ok (b := m_is_whole) (cons_ok (rfl : eVar 4 ((wipeT (isF s a b c) [4]).set 4 (some t)) k = .ok t k) (rfl : aNil _ k = .ok [] k))).trans (whole_ok (List.all_eq_true.mp p t ht) k))
  exact test_ok ((call_ok (b := fAll) (cons_ok (eL_ok z1) (rfl : aNil (isF s a b c) k = .ok [] k))).trans (hAll [a, b, c] whole k))
theorem isw_no {s a b c : T} {k : VH} (C : iwC (isF s a b c) k = .ok true k) : K66.m_is_weight [s, a, b, c] k = .ok (.bl false) k := by
  have D : K66.m_is_weight = defM 10 4 K66.s_is_weight := rfl
  rw [D, iw_eq]
  exact defM_rt rfl (seq_rt ((if_t C).trans (ret_ok rfl)))
theorem isw_odd {s a b c : T} (p : [a, b, c].all plain = true) (w : [a, b, c].all whole = false) (k : VH) : K66.m_is_weight [s, a, b, c] k = .ok (.bl false) k := by
  have z := all_whole (s := s) p k
  rw [w] at z
  exact isw_no (hOr (q := true) (hNot z) fun e => by cases e)
theorem isw_out {s : T} {m u l : Int} (o : m < 1 ∨ 9 < m ∨ l < 1) (k : VH) : K66.m_is_weight [s, .int m, .int u, .int l] k = .ok (.bl false) k := by
  have z := all_whole (s := s) (a := .int m) (b := .int u) (c := .int l) rfl k
  have A2 := hChain (τ := isF s (.int m) (.int u) (.int l)) (h := k) (f := eK (.int 1)) (g := eVar 1) (k := eK (.int 9)) (x := .int 1) (y := .int m) (z := .int 9) rfl rfl (hLe _ _ k) rfl (hLe _ _ k)
  have A3 := test_ok ((op_ok (b := TL.bLt) (rfl : eVar 3 (isF s (.int m) (.int u) (.int l)) k = .ok (.int l) k) (rfl : eK (.int 1) _ k = .ok (.int 1) k)).trans (hLt _ _ k))
  refine isw_no ((hOr (hNot z) fun _ => hOr (hNot (test_ok A2)) fun _ => A3).trans ?_)
  congr 1
  rcases o with o | o | o
  · rw [decide_eq_false (show ¬ 1 ≤ m by omega)]; rfl
  · rw [decide_eq_false (show ¬ m ≤ 9 by omega), Bool.and_false]; rfl
  · rw [decide_eq_true o, Bool.or_true, Bool.or_true]
abbrev clT (size : Nat) (rows : List (List Nat)) (mine its : List Nat) (a b c : T) : T := .tup [.str "weight", .str (boardS size rows), lineT mine, lineT its, a, b, c]
theorem shows_any (R : Rows size rows) (M : Hand size mine []) (I : Hand size its mine) {a b c p : T} {h : VH} {B : Bool} (W : TL.isNon p = true → K66.m_is_weight [.ref h.length, a, b, c] (shH h size mine its rows) = .ok (.bl B) (shH h size mine its rows)) (no : TL.isNon p = false → B = false) :
    K66.m_shows_stand [clT size rows mine its a b c, p] h = .ok (.bl B) (shH h size mine its rows) := by
  have SO := sheet_ok R M I h
  obtain ⟨k, hk⟩ : ∃ k, k = shH h size mine its rows := ⟨_, rfl⟩
  rw [← hk] at SO W ⊢
  obtain ⟨bS, hb⟩ : ∃ b, b = boardS size rows := ⟨_, rfl⟩
  obtain ⟨cl, hc⟩ : ∃ cl, cl = clT size rows mine its a b c := ⟨_, rfl⟩
  obtain ⟨τ, hτ⟩ : ∃ τ, τ = startT 3 [cl, p] := ⟨_, rfl⟩
  obtain ⟨τ2, hτ2⟩ : ∃ τ2, τ2 = [some cl, some p, some (.ref h.length)] := ⟨_, rfl⟩
  have S1 : sSet 2 (eCall K66.m_sheet_told (aCons (eOp TL.bIx (eVar 0) (eK (.int 1))) (aCons (eOp TL.bIx (eVar 0) (eK (.int 2))) (aCons (eOp TL.bIx (eVar 0) (eK (.int 3))) aNil)))) τ h = .nx τ2 k := by
    refine (set_ok (i := 2) ((call_ok (b := K66.m_sheet_told) (ts := [.str (boardS size rows), lineT mine, lineT its]) (by rw [hτ, hc]; rfl)).trans SO)).trans ?_
    rw [hτ, hτ2]
    rfl
  have I1 : bTest (eOp TL.bIs (eVar 2) (eK .non)) τ2 k = .ok false k := by rw [hτ2]; rfl
  have w : eOp TL.bIx (eVar 0) (eK (.int 0)) τ2 k = .ok (.str "weight") k := by rw [hτ2, hc]; rfl
  have N : ∀ x : Str, bTest (eOp TL.bEq (eOp TL.bIx (eVar 0) (eK (.int 0))) (eK (.str x))) τ2 k = .ok ((("weight" : String) : Str) == x) k := fun x => test_ok ((op_ok (b := TL.bEq) w (rfl : eK (.str x) τ2 k = .ok (.str x) k)).trans (eq_strs _ _ k))
  have N1 := N "own"
  have N2 := N "pairs"
  have N3 := N "lacks"
  have N4 := N "forced"
  have N5 := N "weight"
  rw [show (((("weight" : String) : Str) == (("own" : String) : Str))) = false by decide +kernel] at N1
  rw [show (((("weight" : String) : Str) == (("pairs" : String) : Str))) = false by decide +kernel] at N2
  rw [show (((("weight" : String) : Str) == (("lacks" : String) : Str))) = false by decide +kernel] at N3
  rw [show (((("weight" : String) : Str) == (("forced" : String) : Str))) = false by decide +kernel] at N4
  rw [show (((("weight" : String) : Str) == (("weight" : String) : Str))) = true by decide +kernel] at N5
  have v1 : eVar 1 τ2 k = .ok p k := by rw [hτ2]; rfl
  have I2 : bTest (eOp TL.bIsn (eVar 1) (eK .non)) τ2 k = .ok (!TL.isNon p) k := by
    refine test_ok ((op_ok (b := TL.bIsn) v1 (rfl : eK .non τ2 k = .ok .non k)).trans ?_)
    cases p <;> rfl
  have D : K66.m_shows_stand = defM 3 2 K66.s_shows_stand := rfl
  rw [D, ← hc]
  refine defM_rt rfl ?_
  rw [← hτ]
  refine (seq_nx S1).trans ((seq_nx ((if_f I1).trans rfl)).trans ((seq_nx ((if_f N1).trans rfl)).trans ((seq_nx ((if_f N2).trans rfl)).trans ((seq_nx ((if_f N3).trans rfl)).trans ((seq_nx ((if_f N4).trans rfl)).trans ?_)))))
  cases e : TL.isNon p with
  | false =>
    rw [e] at I2
    rw [no e]
    exact seq_rt ((if_t I2).trans (ret_ok rfl))
  | true =>
    rw [e] at I2
    have A := (call_ok (b := K66.m_is_weight) (g := aCons (eVar 2) (aCons (eOp TL.bIx (eVar 0) (eK (.int 4))) (aCons (eOp TL.bIx (eVar 0) (eK (.int 5))) (aCons (eOp TL.bIx (eVar 0) (eK (.int 6))) aNil)))) (τ := τ2) (h := k) (ts := [.ref h.length, a, b, c]) (by rw [hτ2, hc]; rfl)).trans (W e)
    exact (seq_nx ((if_f I2).trans rfl)).trans (seq_rt ((if_t N5).trans (ret_ok A)))
theorem acc_any {a b c p : T} {h : VH} {B : Bool} {d : PyData} {ds : List PyData} (SH : K66.m_shows_stand [clT size rows mine its a b c, p] h = .ok (.bl B) (shH h size mine its rows)) (cd : T.dat h 10 (clT size rows mine its a b c) = some (.tuple (d :: ds))) (hl : h.all (VO.lowR h.length) = true) :
    K66.m_accepts [clT size rows mine its a b c, p] h = .ok (.bl B) h := by
  obtain ⟨cl, hc⟩ : ∃ cl, cl = clT size rows mine its a b c := ⟨_, rfl⟩
  obtain ⟨τ, hτ⟩ : ∃ τ, τ = startT 2 [cl, p] := ⟨_, rfl⟩
  rw [← hc] at SH cd
  have v0 : eVar 0 τ h = .ok cl h := by rw [hτ]; rfl
  have w : eOp TL.bIx (eVar 0) (eK (.int 0)) τ h = .ok (.str "weight") h := by rw [hτ, hc]; rfl
  have G1 : bTest (eIsi (.b "tuple") (eVar 0)) τ h = .ok true h := by rw [hτ, hc]; rfl
  have G2 : bTest (eOp TL.bEq (eVar 0) (eTup aNil)) τ h = .ok false h := by
    refine test_ok ((op_ok (b := TL.bEq) v0 (rfl : eTup aNil τ h = .ok (.tup []) h)).trans ?_)
    have e2 : T.dat h 10 (.tup []) = some (.tuple []) := rfl
    unfold TL.bEq bEqG
    rw [cd, e2]
    rfl
  have G3 : bTest (eIsi (.b "str") (eOp TL.bIx (eVar 0) (eK (.int 0)))) τ h = .ok true h := by rw [hτ, hc]; rfl
  have C1 := hOr (hNot G1) fun _ => hOr G2 fun _ => hNot G3
  have G4 : bTest (eOp TL.bNe (eGetK kv_SIZES (eOp TL.bIx (eVar 0) (eK (.int 0)))) (eCall fLen (aCons (eVar 0) aNil))) τ h = .ok false h := by
    have a : eGetK kv_SIZES (eOp TL.bIx (eVar 0) (eK (.int 0))) τ h = .ok (.int 7) h := by
      unfold eGetK
      rw [w]
      with_unfolding_all rfl
    have l : eCall fLen (aCons (eVar 0) aNil) τ h = .ok (.int 7) h := by rw [hτ, hc]; rfl
    exact test_ok ((op_ok (b := TL.bNe) a l).trans (hNe _ _ h))
  have G5 : bTest (eOp TL.bIn (eOp TL.bIx (eVar 0) (eK (.int 0))) (eTup (aCons (eK (.str "held")) (aCons (eK (.str "free")) aNil)))) τ h = .ok false h := by
    refine test_ok ((op_ok (b := TL.bIn) w (rfl : eTup (aCons (eK (.str "held")) (aCons (eK (.str "free")) aNil)) τ h = .ok (.tup [.str "held", .str "free"]) h)).trans ?_)
    with_unfolding_all rfl
  have A := (call_ok (b := K66.m_shows_stand) (g := aCons (eVar 0) (aCons (eVar 1) aNil)) (τ := τ) (h := h) (ts := [cl, p]) (by rw [hτ]; rfl)).trans SH
  have In : defM 2 2 K66.s_accepts [cl, p] h = .ok (.bl B) (shH h size mine its rows) := by
    refine defM_rt rfl ?_
    rw [← hτ]
    exact (seq_nx ((if_f C1).trans rfl)).trans ((seq_nx ((if_f G4).trans rfl)).trans ((seq_nx ((if_f G5).trans rfl)).trans (ret_ok A)))
  have tk : (shH h size mine its rows).take h.length = h := by unfold shH; rw [List.take_left]
  have D : K66.m_accepts = cutM (defM 2 2 K66.s_accepts) := rfl
  rw [D, ← hc]
  unfold cutM
  rw [In]
  simp only [tk, hl, if_true]
  rfl
def pd : T → Option PyData
  | .non => some .none
  | .bl b => some (.bool b)
  | .int i => some (.int i)
  | .str s => some (.str s)
  | .tup [.int i] => some (.tuple [.int i])
  | _ => none
theorem pd_dat {t : T} {d : PyData} (e : pd t = some d) (h : VH) (n : Nat) : T.dat h (n + 3) t = some d := by
  unfold pd at e
  split at e <;> first | (cases e; rfl) | cases e
theorem pd_plain {t : T} {d : PyData} (e : pd t = some d) : plain t = true := by
  unfold pd at e
  split at e <;> first | rfl | cases e
theorem cl_dat {a b c : T} {x y z : PyData} (ea : pd a = some x) (eb : pd b = some y) (ec : pd c = some z) (h : VH) : T.dat h 10 (clT size rows mine its a b c) = some (.tuple [.str "weight", .str (boardS size rows), lnD mine, lnD its, x, y, z]) := by
  rw [dat_tup]
  simp only [List.mapM_cons, List.mapM_nil, dat_str, line_dat mine h, line_dat its h, pd_dat ea h 6, pd_dat eb h 6, pd_dat ec h 6, Option.pure_def, Option.bind_eq_bind, Option.bind_some, Option.map_some]
end
end WJ
namespace WJ
open PySem L2 TL K58 K13 BD BG
def it (a : Int) : Str := Str.ofString (toString a)
theorem it_tl (a : Int) : tl (it a) = (toString a).toList.map Char.toNat := tl_ofString _
theorem it_inj {a b : Int} (e : it a = it b) : a = b := by
  have h := congrArg tl e
  rw [it_tl, it_tl, List.map_inj_right (fun x y h => Char.toNat_inj.mp h), String.toList_inj] at h
  exact Int.repr_inj.mp h
theorem it_chars (a : Int) : ∀ c ∈ tl (it a), c = 45 ∨ (48 ≤ c ∧ c ≤ 57) := by
  have dig : ∀ m : Nat, ∀ c ∈ ((Nat.repr m).toList.map Char.toNat), 48 ≤ c ∧ c ≤ 57 := fun m c hc => by
    rw [Nat.repr_eq_ofList_toDigits, String.toList_ofList] at hc
    obtain ⟨d, hd, rfl⟩ := List.mem_map.mp hc
    have z := Nat.isDigit_of_mem_toDigits (by omega) (by omega) hd
    unfold Char.isDigit at z
    rw [Bool.and_eq_true, decide_eq_true_eq, decide_eq_true_eq] at z
    exact ⟨z.1, z.2⟩
  intro c hc
  rw [it_tl] at hc
  cases a with
  | ofNat m => exact .inr (dig m c hc)
  | negSucc m =>
    have e : toString (Int.negSucc m) = "-" ++ Nat.repr (m + 1) := rfl
    rw [e, String.toList_append, List.map_append] at hc
    rcases List.mem_append.mp hc with h | h
    · have e2 : ("-" : String).toList.map Char.toNat = [45] := by decide
      rw [e2] at h
      exact .inl (List.mem_singleton.mp h)
    · exact .inr (dig _ c h)
theorem it_no (a : Int) : 44 ∉ tl (it a) := fun h => by
  have := it_chars a _ h
  omega
theorem it_ne (a : Int) : tl (it a) ≠ [] := by
  rw [it_tl]
  cases a with
  | ofNat m =>
    show (Nat.repr m).toList.map Char.toNat ≠ []
    rw [Nat.repr_eq_ofList_toDigits, String.toList_ofList]
    exact fun h => Nat.toDigits_ne_nil (List.map_eq_nil_iff.mp h)
  | negSucc m =>
    have e : toString (Int.negSucc m) = "-" ++ Nat.repr (m + 1) := rfl
    rw [e, String.toList_append, List.map_append]
    have e2 : ("-" : String).toList.map Char.toNat = [45] := by decide
    rw [e2]
    simp
theorem split44 : ∀ {x y r s : List Nat}, 44 ∉ x → 44 ∉ y → x ++ 44 :: r = y ++ 44 :: s → x = y ∧ r = s
  | [], [], r, s, _, _, e => by
    injection e with _ e
    exact ⟨rfl, e⟩
  | [], b :: y, r, s, _, n, e => by
    injection e with e1 _
    exact absurd (by rw [← e1]; exact List.mem_cons_self) n
  | a :: x, [], r, s, n, _, e => by
    injection e with e1 _
    exact absurd (by rw [e1]; exact List.mem_cons_self) n
  | a :: x, b :: y, r, s, n, m, e => by
    injection e with e1 e2
    obtain ⟨h1, h2⟩ := split44 (fun z => n (List.mem_cons_of_mem _ z)) (fun z => m (List.mem_cons_of_mem _ z)) e2
    exact ⟨by rw [e1, h1], h2⟩
theorem two_tl (x y : Str) : tl (tupleText [x, y]) = 40 :: (tl x ++ 44 :: 32 :: (tl y ++ [41])) := by
  unfold tupleText
  rw [tl_append, tl_append]
  have e1 : tl (Str.ofString "(") = [40] := by rw [tl_ofString]; decide
  have e2 : tl (Str.ofString (if ([x, y].length == 1) = true then ",)" else ")")) = [41] := by
    show tl (Str.ofString ")") = [41]
    rw [tl_ofString]
    decide
  have e3 : tl ((Str.ofString ", ").join [x, y]) = tl x ++ 44 :: 32 :: tl y := by
    have e : (Str.ofString ", ").join [x, y] = x ++ (Str.ofString ", " ++ y) := by
      refine ext_tl ?_
      simp [Str.join, tl_append]
    have e4 : tl (Str.ofString ", ") = [44, 32] := by rw [tl_ofString]; decide
    rw [e, tl_append, tl_append, e4]
    rfl
  rw [e1, e2, e3]
  simp
theorem two_inj {x y z w : Str} (n : 44 ∉ tl x) (m : 44 ∉ tl z) (e : tupleText [x, y] = tupleText [z, w]) : x = z ∧ y = w := by
  have h := congrArg tl e
  rw [two_tl, two_tl] at h
  injection h with _ h
  obtain ⟨h1, h2⟩ := split44 n m h
  injection h2 with _ h2
  exact ⟨ext_tl h1, ext_tl (List.append_cancel_right h2)⟩
theorem int2 {a b c d : Int} : (tupleText [it a, it b] == tupleText [it c, it d]) = decide (a = c ∧ b = d) := by
  by_cases e : a = c ∧ b = d
  · obtain ⟨rfl, rfl⟩ := e
    rw [decide_eq_true ⟨rfl, rfl⟩]
    exact beq_self_eq_true _
  · rw [decide_eq_false e, beq_eq_false_iff_ne]
    intro h
    obtain ⟨h1, h2⟩ := two_inj (it_no a) (it_no c) h
    exact e ⟨it_inj h1, it_inj h2⟩
theorem none_tl : tl (Str.ofString "None") = [78, 111, 110, 101] := by rw [tl_ofString]; decide
theorem none_it (a : Int) : Str.ofString "None" ≠ it a := fun e => by
  have h := it_chars a 78 (by rw [← e, none_tl]; exact List.mem_cons_self)
  omega
theorem fold_head (f : Nat → Array Nat) : ∀ (l : List Nat) (a : Array Nat) (q : Nat) (r : List Nat), a.toList = q :: r → ∃ r', (l.foldl (fun out c => out ++ f c) a).toList = q :: r'
  | [], a, q, r, e => ⟨r, e⟩
  | c :: l, a, q, r, e => by
    rw [List.foldl_cons]
    exact fold_head f l (a ++ f c) q (r ++ (f c).toList) (by rw [Array.toList_append, e]; rfl)
theorem repr_head (s : Str) : ∃ q r, tl (reprText s) = q :: r ∧ (q = 34 ∨ q = 39) := by
  obtain ⟨q, hq⟩ : ∃ q, q = reprQuote s := ⟨_, rfl⟩
  have hq2 : q = 34 ∨ q = 39 := by
    rw [hq]
    unfold reprQuote
    split
    · exact .inl rfl
    · exact .inr rfl
  obtain ⟨r, hr⟩ := fold_head (fun c => (Builtin.Str.reprChar q c).toArray) s.cps.toList #[q] q [] rfl
  refine ⟨q, r ++ [q], ?_, hq2⟩
  unfold reprText
  show (Array.push _ _).toList = _
  rw [← hq, ← Array.foldl_toList, Array.toList_push, hr]
  rfl
theorem repr_it {s : Str} {a : Int} {y w : Str} : tupleText [reprText s, y] ≠ tupleText [it a, w] := fun e => by
  have h := congrArg tl e
  rw [two_tl, two_tl] at h
  injection h with _ h
  obtain ⟨q, r, e1, hq⟩ := repr_head s
  cases e2 : tl (it a) with
  | nil => exact it_ne a e2
  | cons c t =>
    rw [e1, e2] at h
    injection h with h _
    have := it_chars a c (by rw [e2]; exact List.mem_cons_self)
    omega
theorem none_1 {a : Int} {y w : Str} : tupleText [Str.ofString "None", y] ≠ tupleText [it a, w] := fun e => none_it a (two_inj (by rw [none_tl]; decide) (it_no a) e).1
theorem none_2 {a b c : Int} : tupleText [it a, Str.ofString "None"] ≠ tupleText [it b, it c] := fun e => none_it c (two_inj (it_no a) (it_no b) e).2
end WJ
namespace WJ
open PySem L2 TL K58 K13 BD BG
theorem int_show2 {c : Int} (hc : c.natAbs ≤ 100000000) : PyData.showable (.int c) = true ∧ wide (.int c) ≤ 100 := by
  have lg : c.natAbs.log2 ≤ 30 := by
    rcases Nat.lt_or_ge 30 c.natAbs.log2 with z | z
    · have p : 2 ^ c.natAbs.log2 ≤ c.natAbs := Nat.log2_self_le (by intro h; rw [h] at z; simp at z)
      have q : 2 ^ 31 ≤ 2 ^ c.natAbs.log2 := Nat.pow_le_pow_right (by omega) z
      omega
    · exact z
  refine ⟨?_, ?_⟩
  · simp only [PyData.showable]
    exact decide_eq_true (by omega)
  · simp only [wide]
    omega
structure Tx (t : T) (d : PyData) (s : Str) : Prop where
  pd : WJ.pd t = some d
  sh : PyData.showable d = true
  nd : PyData.hasDict d = false
  wd : wide d ≤ 2000
  tx : PyData.shown d = s
theorem tx_int {c : Int} (hc : c.natAbs ≤ 100000000) : Tx (.int c) (.int c) (it c) := by
  obtain ⟨a, b⟩ := int_show2 hc
  exact ⟨rfl, a, rfl, by omega, by simp only [PyData.shown]; rfl⟩
theorem tx_non : Tx .non .none (Str.ofString "None") := ⟨rfl, rfl, rfl, Nat.le_of_ble_eq_true rfl, by simp only [PyData.shown]⟩
theorem tx_str {c : Int} (hc : c.natAbs ≤ 100000000) : Tx (.str (it c)) (.str (it c)) (reprText (it c)) := by
  refine ⟨rfl, rfl, rfl, ?_, by simp only [PyData.shown]⟩
  have a := text_show (x := it c) fun k hk => by have := it_chars c k hk; omega
  have l : (it c).length ≤ wide (.int c) := by
    have z := shown_le (.int c) rfl
    have e : PyData.shown (.int c) = it c := by simp only [PyData.shown]; rfl
    rwa [e] at z
  have b := (int_show2 hc).2
  omega
theorem repr2 {a b : T} {x y : PyData} {s t : Str} (A : Tx a x s) (B : Tx b y t) (h : VH) : fRepr [.tup [a, b]] h = .ok (.str (tupleText [s, t])) h := by
  have e : T.dat h 10 (.tup [a, b]) = some (.tuple [x, y]) := by
    rw [dat_tup]
    simp only [List.mapM_cons, List.mapM_nil, pd_dat A.pd h 6, pd_dat B.pd h 6, Option.pure_def, Option.bind_eq_bind, Option.bind_some, Option.map_some]
  have tx : (PyData.tuple [x, y]).shown = tupleText [s, t] := by
    simp only [PyData.shown, PyData.shownAll, A.tx, B.tx]
  rw [← tx]
  have a1 := A.sh
  have a2 := A.nd
  have a3 := A.wd
  have b1 := B.sh
  have b2 := B.nd
  have b3 := B.wd
  refine repr_ok e ?_ ?_ ?_
  · simp only [PyData.showable, PyData.showableAll, a1, b1, Bool.and_true, Bool.true_and]
  · simp only [PyData.hasDict, PyData.hasDictAll, a2, b2, Bool.or_false, Bool.false_or]
  · simp only [wide, wides]
    omega
theorem str_m {c : Int} (hc : c.natAbs ≤ 100000000) (h : VH) : fStr [.int c] h = .ok (.str (it c)) h := by
  have lg := (int_show2 hc).1
  simp only [PyData.showable] at lg
  have l : (it c).length ≤ wide (.int c) := by
    have z := shown_le (.int c) rfl
    have e : PyData.shown (.int c) = it c := by simp only [PyData.shown]; rfl
    rwa [e] at z
  have b := (int_show2 hc).2
  show (if c.natAbs.log2 < 1920 ∧ (Str.ofString (toString c)).length ≤ 1000000 then Res.ok (T.str (Str.ofString (toString c))) h else Res.bad) = _
  rw [if_pos]
  · rfl
  · refine ⟨?_, ?_⟩
    · have := of_decide_eq_true lg
      omega
    · show (it c).length ≤ _
      omega
section
variable {size : Nat} {rows : List (List Nat)} {mine its : List Nat} {h : VH}
theorem acc_paper (R : Rows size rows) (M : Hand size mine []) (I : Hand size its mine) {a b c p : T} {x y z : PyData} (ea : pd a = some x) (eb : pd b = some y) (ec : pd c = some z) (np : TL.isNon p = false) (low : h.all (VO.lowR h.length) = true) :
    K66.m_accepts [clT size rows mine its a b c, p] h = .ok (.bl false) h :=
  acc_any (shows_any R M I (fun e => by rw [np] at e; cases e) fun _ => rfl) (cl_dat ea eb ec h) low
theorem acc_no (R : Rows size rows) (M : Hand size mine []) (I : Hand size its mine) {a b c : T} {x y z : PyData} (ea : pd a = some x) (eb : pd b = some y) (ec : pd c = some z) (no : ∀ k : VH, ∀ s : T, K66.m_is_weight [s, a, b, c] k = .ok (.bl false) k) (low : h.all (VO.lowR h.length) = true) :
    K66.m_accepts [clT size rows mine its a b c, .non] h = .ok (.bl false) h :=
  acc_any (shows_any R M I (fun _ => no _ _) fun _ => rfl) (cl_dat ea eb ec h) low
theorem frac_is {X Y u l v k : Nat} (f : Frac X Y u l) (hY : 0 < Y) (hk : 1 ≤ k) : (decide (v * Y = X * k) && decide (Nat.gcd v k = 1)) = decide ((v : Int) = (u : Int) ∧ (k : Int) = (l : Int)) := by
  rw [← Bool.decide_and]
  refine decide_eq_decide.mpr ⟨fun ⟨e, g⟩ => ?_, fun ⟨e1, e2⟩ => ?_⟩
  · have f2 : Frac X Y v k := ⟨e, g, hk⟩
    obtain ⟨a, b⟩ := f.uniq hY
    obtain ⟨c, d⟩ := f2.uniq hY
    exact ⟨by rw [a, c], by rw [b, d]⟩
  · have e3 : v = u := by omega
    have e4 : k = l := by omega
    subst e3
    subst e4
    exact ⟨f.eq, f.cop⟩
theorem acc_nat (R : Rows size rows) (M : Hand size mine []) (I : Hand size its mine) (five : ∀ l ∈ rows, l.length ≤ 5) {m u l : Nat} (m1 : 1 ≤ m) (m9 : m ≤ 9) (f : Frac (wsum m (lng (restsL rows mine its)) (restsL rows mine its)) ((m + 1) ^ lng (restsL rows mine its)) u l) {v k : Nat} (k1 : 1 ≤ k) (kb : k ≤ 100000000) (low : h.all (VO.lowR h.length) = true) :
    K66.m_accepts [clT size rows mine its (nI m) (nI v) (nI k), .non] h = .ok (.bl (decide ((v : Int) = (u : Int) ∧ (k : Int) = (l : Int)))) h := by
  have p : 0 < (m + 1) ^ lng (restsL rows mine its) := Nat.pow_pos (by omega)
  have k4 : k < 2 ^ 400 := Nat.lt_of_le_of_lt kb (Nat.lt_of_lt_of_le (show 100000000 < 2 ^ 30 by decide) (Nat.pow_le_pow_right (by omega) (by omega)))
  have W := isw_ok (u := v) (mine := mine) (its := its) R five m1 m9 k1 k4 h
  rw [frac_is f p k1] at W
  exact acc_any (shows_any R M I (fun _ => W) fun e => by cases e) (cl_dat (x := .int (m : Nat)) (y := .int (v : Nat)) (z := .int (k : Nat)) rfl rfl rfl h) low
structure Jd (size : Nat) (rows : List (List Nat)) (mine its : List Nat) (m u l : Nat) (a b : T) : Prop where
  ok : ∀ h : VH, h.all (VO.lowR h.length) = true → ∃ (s : Str) (B : Bool), fRepr [.tup [a, b]] h = .ok (.str s) h ∧ (s == tupleText [it u, it l]) = B ∧ K66.m_accepts [clT size rows mine its (nI m) a b, .non] h = .ok (.bl B) h
theorem jd_nat (R : Rows size rows) (M : Hand size mine []) (I : Hand size its mine) (five : ∀ l ∈ rows, l.length ≤ 5) {m u l : Nat} (m1 : 1 ≤ m) (m9 : m ≤ 9) (f : Frac (wsum m (lng (restsL rows mine its)) (restsL rows mine its)) ((m + 1) ^ lng (restsL rows mine its)) u l) {v k : Nat} (vb : v ≤ 100000000) (k1 : 1 ≤ k) (kb : k ≤ 100000000) : Jd size rows mine its m u l (nI v) (nI k) :=
  ⟨fun h low => ⟨_, _, repr2 (tx_int (c := (v : Int)) (by omega)) (tx_int (c := (k : Int)) (by omega)) h, int2, acc_nat R M I five m1 m9 f k1 kb low⟩⟩
theorem jd_out (R : Rows size rows) (M : Hand size mine []) (I : Hand size its mine) {m u l : Nat} {v k : Int} (vb : v.natAbs ≤ 100000000) (kb : k.natAbs ≤ 100000000) (k1 : k < 1) (l1 : 1 ≤ l) : Jd size rows mine its m u l (.int v) (.int k) :=
  ⟨fun h low => ⟨_, _, repr2 (tx_int vb) (tx_int kb) h, int2.trans (decide_eq_false (by omega)), acc_no R M I (x := .int (m : Nat)) (y := .int v) (z := .int k) rfl rfl rfl (fun q s => isw_out (.inr (.inr k1)) q) low⟩⟩
theorem jd_odd (R : Rows size rows) (M : Hand size mine []) (I : Hand size its mine) {m u l : Nat} {a b : T} {x y : PyData} {s t : Str} (A : Tx a x s) (B : Tx b y t) (w : [nI m, a, b].all whole = false) (ne : tupleText [s, t] ≠ tupleText [it u, it l]) : Jd size rows mine its m u l a b :=
  ⟨fun h low => ⟨_, _, repr2 A B h, beq_eq_false_iff_ne.mpr ne, acc_no R M I (x := .int (m : Nat)) rfl A.pd B.pd (fun q s => isw_odd (by
    have pa := pd_plain A.pd
    have pb := pd_plain B.pd
    simp only [List.all_cons, List.all_nil, pa, pb, Bool.and_true]
    rfl) w q) low⟩⟩
end
end WJ
namespace EV
open PySem PySem.Spec L2 TL
section
variable {τ τ1 : TS_} {h h1 h2 h3 : VH} {t u v : T} {ts us : List T} {p q : Bool} {c d : MB} {e f g k : ME} {a b : MA} {s s2 : MS} {i j : Nat} {r : Res T} {o : Out}
theorem var (w : τ[i]? = some (some t)) : eVar i τ h = .ok t h := by unfold eVar; rw [w]
theorem const : eK t τ h = .ok t h := rfl
theorem nil : aNil τ h = .ok [] h := rfl
theorem lim (w : a τ h = .ok ts h1) (l : ts.length ≤ 16777216) : aLim a τ h = .ok ts h1 := by unfold aLim; rw [w]; exact if_pos l
theorem tup (w : a τ h = .ok ts h1) (l : ts.length ≤ 16777216) : eTup a τ h = .ok (.tup ts) h1 := by unfold eTup; rw [w]; exact if_pos l
theorem lst (w : a τ h = .ok ts h1) : eL a τ h = .ok (.lst ts) h1 := by unfold eL; rw [w]
theorem op {m : T → T → VH → Res T} (w1 : f τ h = .ok t h1) (w2 : g τ h1 = .ok u h2) (w3 : m t u h2 = r) : eOp m f g τ h = r := by unfold eOp; simp only [w1, w2, w3]
theorem call {m : List T → VH → Res T} (w1 : a τ h = .ok ts h1) (w2 : m ts h1 = r) : eCall m a τ h = r := by unfold eCall; simp only [w1, w2]
theorem cons (w1 : f τ h = .ok t h1) (w2 : a τ h1 = .ok ts h2) : aCons f a τ h = .ok (t :: ts) h2 := cons_ok w1 w2
theorem neg {z : Int} (w : f τ h = .ok (.int z) h1) : eNeg f τ h = .ok (.int (-z)) h1 := by unfold eNeg; simp only [w]
theorem test (w : f τ h = .ok (.bl p) h1) : bTest f τ h = .ok p h1 := test_ok w
theorem not (w : c τ h = .ok p h1) : TL.bNot c τ h = .ok (!p) h1 := by unfold TL.bNot; simp only [w]
theorem set (w : f τ h = .ok t h1) (w2 : τ.set i (some t) = τ1) : sSet i f τ h = .nx τ1 h1 := by rw [set_ok w, w2]
theorem par (w : a τ h = .ok [t, u] h1) (w2 : (τ.set i (some t)).set j (some u) = τ1) : sPar i j a τ h = .nx τ1 h1 := by unfold sPar; simp only [w, w2]
theorem addT (l : ts.length + us.length ≤ 16777216) : TL.bAdd (.tup ts) (.tup us) h = .ok (.tup (ts ++ us)) h := if_pos l
theorem addL (l : ts.length + us.length ≤ 16777216) : TL.bAdd (.lst ts) (.lst us) h = .ok (.lst (ts ++ us)) h := if_pos l
theorem ixT {z : Int} (w : atI ts z = some t) : TL.bIx (.tup ts) (.int z) h = .ok t h := by simp only [TL.bIx, w]
theorem at_nat (w : ts[i]? = some t) : atI ts ((i : Nat) : Int) = some t := by
  have l := (List.getElem?_eq_some_iff.mp w).1
  rw [ix_nn (by omega) (by omega), Int.toNat_natCast, w]
end
end EV
namespace K21
open K33
open K13
open PySem L2 TL
end K21
namespace BD
open PySem L2 TL K13 K06
def k1 : MS := (sSet 9 (eL (mLc (iRange1 (aCons (eVar 2) aNil)) [10] (mgName 10) (TL.bAnd (bTest (eOp TL.bNin (eVar 10) (eVar 5))) (bTest (eOp TL.bNin (eVar 10) (eVar 6)))) (eVar 10))))
def k2 : MS := (sIf (bTest (eOp TL.bEq (eVar 9) (eL (aLim aNil)))) sBrk sNil)
def k3 : MS := (sPar 10 11 (aCons (eCall m_law_pick (aCons (eVar 0) (aCons (eVar 9) aNil))) (aCons (eCall m_law_pick (aCons (eVar 0) (aCons (eL (aLim (aCons (eK (.str "first")) (aCons (eK (.str "second")) aNil)))) aNil))) aNil)))
def k4 : MS := (sSet 12 (eIf (bTest (eOp TL.bGt (eVar 8) (eK (.int 0)))) (eMeth 1 m_Stand_taken (eVar 7) (aCons (eVar 11) (aCons (eVar 10) aNil))) (eMeth 1 m_Stand_taken (eVar 7) (aPerm [1, 0] (aCons (eVar 10) (aCons (eVar 11) aNil))))))
def isC : MB := (bTest (eCall m_law_is (aCons (eVar 7) (aCons (eVar 2) (aCons (eVar 3) (aCons (eVar 5) (aCons (eVar 6) aNil)))))))
def kNo : MS := (sRet (eK (.bl false)))
def k5 : MS := (sIf (TL.bOr (TL.bNot isC) (bTest (eOp (bEqO 1 false m_Stand___eq__) (eVar 12) (eVar 7)))) kNo sNil)
def k6 : MS := (sIf (bTest (eOp TL.bEq (eVar 11) (eK (.str "first")))) (sSet 5 (eCall fTuple (aCons (eL (mCall fSortedS (aCons (eOp TL.bAdd (eVar 5) (eTup (aCons (eVar 10) aNil))) aNil))) aNil))) (sSet 6 (eCall fTuple (aCons (eL (mCall fSortedS (aCons (eOp TL.bAdd (eVar 6) (eTup (aCons (eVar 10) aNil))) aNil))) aNil))))
def q1 : MS := (sAsg (eCall m_law_board (aCons (eVar 0) aNil)) (mgTup 2 (mgsCons (mgName 2) (mgsCons (mgName 3) mgsNil))))
def q2 : MS := (sSet 4 (eCall (cutM (makeM 0 m_Board___init__)) (aCons (eCall m_law_word_of (aCons (eVar 2) (aCons (eVar 3) aNil))) aNil)))
end BD
namespace K11
open K06 hiding m_law_pick s_law_pick
open K33
open K21
open K13
open PySem L2 TL
end K11
namespace BE
open PySem L2 TL K13 K21 BD
end BE
namespace BF
open PySem L2 TL K13 K21 BD BE
theorem iseq_ok {f : ME} {τ : TS_} {h h1 : VH} {t : T} (e : f τ h = .ok t h1) (s : walkable h1 t = true) : iSeqC f τ h = .ok (fun h => seqS h t) h1 := by
  unfold iSeqC
  simp only [e, s, if_true]
def holdB (l : List Nat) (ps : List (List Nat)) : Bool := ps.any fun p => decide (∀ k ∈ p, k ∈ l)
def holdsB (ls ps : List (List Nat)) : Bool := ls.all fun l => holdB l ps
theorem holdsB_iff {ls ps : List (List Nat)} : holdsB ls ps = true ↔ ∀ l ∈ ls, ∃ p ∈ ps, ∀ k ∈ p, k ∈ l := by
  unfold holdsB holdB
  simp only [List.all_eq_true, List.any_eq_true, decide_eq_true_eq]
end BF
namespace BF
open PySem L2 TL K13 K21 BD BE
def apart (p q : List Nat) : Prop := ∀ k ∈ p, k ∉ q
structure PF (m : Nat) (ls cs ds : List (List Nat)) : Prop where
  ex : ∃ es, ds = cs ++ es ∧ (∀ p ∈ es, ∃ i j : Nat, p = [i, j] ∧ i < j ∧ ∃ l ∈ ls, i ∈ l ∧ j ∈ l) ∧ es.length ≤ m
  apart : cs.Pairwise (fun p q => BF.apart p q) → ds.Pairwise fun p q => BF.apart p q
  holds : holdsB ls ds = true
theorem holdB_mono {l : List Nat} {cs ds : List (List Nat)} (h : ∀ p ∈ cs, p ∈ ds) (e : holdB l cs = true) : holdB l ds = true := by
  unfold holdB at e ⊢
  rw [List.any_eq_true] at e ⊢
  obtain ⟨p, hp, q⟩ := e
  exact ⟨p, h p hp, q⟩
def openL (ls cs : List (List Nat)) : List (List Nat) := ls.filter fun l => !holdB l cs
theorem PF.step {m : Nat} {ls cs ds : List (List Nat)} {l0 : List Nat} {i j : Nat} (h0 : l0 ∈ openL ls cs) (hi : i ∈ l0) (hj : j ∈ l0) (lt : i < j) (ui : i ∉ cs.flatten) (uj : j ∉ cs.flatten) (P : PF m (openL ls cs) (cs ++ [[i, j]]) ds) : PF (m + 1) ls cs ds := by
  obtain ⟨es, rfl, h1, h2⟩ := P.ex
  have sub : ∀ l, l ∈ openL ls cs → l ∈ ls := fun l hl => (List.mem_filter.mp hl).1
  refine ⟨⟨[i, j] :: es, by simp, fun p hp => ?_, ?_⟩, fun a => P.apart ?_, ?_⟩
  · rcases List.mem_cons.mp hp with rfl | hp
    · exact ⟨i, j, rfl, lt, l0, sub _ h0, hi, hj⟩
    · obtain ⟨a, b, e, ab, l, hl, q⟩ := h1 p hp
      exact ⟨a, b, e, ab, l, sub l hl, q⟩
  · simp only [List.length_cons]
    omega
  · rw [List.pairwise_append]
    refine ⟨a, by simp, fun p hp q hq k hk => ?_⟩
    rw [List.mem_singleton.mp hq]
    intro z
    rcases List.mem_cons.mp z with rfl | z
    · exact ui (List.mem_flatten.mpr ⟨p, hp, hk⟩)
    · rw [List.mem_singleton.mp z] at hk
      exact uj (List.mem_flatten.mpr ⟨p, hp, hk⟩)
  · have H := holdsB_iff.mp P.holds
    unfold holdsB
    rw [List.all_eq_true]
    intro l hl
    by_cases o : holdB l cs = true
    · exact holdB_mono (fun p hp => by simp [hp]) o
    · have := H l (List.mem_filter.mpr ⟨hl, by simpa using o⟩)
      obtain ⟨p, hp, q⟩ := this
      unfold holdB
      exact List.any_eq_true.mpr ⟨p, hp, decide_eq_true q⟩
end BF
namespace BF
open PySem L2 TL K13 K21 BD BE
end BF
namespace BF
open PySem L2 TL K13 K21 BD BE
end BF
namespace BF
open PySem L2 TL K13 K21 BD BE
end BF
namespace BF
open PySem L2 TL K13 K21 BD BE
section
variable {size : Nat} {rows : List (List Nat)} {mine its : List Nat}
abbrev lotT (ps : List (List Nat)) : T := .tup (ps.map lineT)
end
end BF
namespace BF
open PySem L2 TL K13 K21 BD BE
end BF
namespace BH
open PySem L2 TL K58 K13 BD BG
open BF (holdB holdsB holdsB_iff lotT)
abbrev Way : Type := List (List Nat) × List Nat
def mkW (s : Nat) (w : Way) (o : Nat) : Way := (w.1 ++ [[s, o]], w.2.filter fun e => !decide (e ∈ [s, o]))
def stepW (s : Nat) (w : Way) : List Way := (w.1, w.2.filter fun o => !decide (o = s)) :: (w.2.filter fun o => decide (s ∈ w.2) && decide (s < o)).map (mkW s w)
structure Good (sp : List Nat) (w : Way) : Prop where
  two : ∀ p ∈ w.1, ∃ i j : Nat, p = [i, j] ∧ i < j
  apart : ∀ p ∈ w.1, ∀ q ∈ w.1, p ≠ q → ∀ k ∈ p, k ∉ q
  free : ∀ p ∈ w.1, ∀ k ∈ p, k ∉ w.2
  len : w.2.length ≤ sp.length
theorem Good.step {sp : List Nat} {s : Nat} {w : Way} (g : Good sp w) {v : Way} (hv : v ∈ stepW s w) : Good sp v := by
  unfold stepW at hv
  rcases List.mem_cons.mp hv with rfl | hv
  · exact ⟨g.two, g.apart, fun p hp k hk z => g.free p hp k hk (List.mem_filter.mp z).1, Nat.le_trans (List.length_filter_le _ _) g.len⟩
  · obtain ⟨o, ho, rfl⟩ := List.mem_map.mp hv
    obtain ⟨o1, o2⟩ := List.mem_filter.mp ho
    rw [Bool.and_eq_true, decide_eq_true_eq, decide_eq_true_eq] at o2
    obtain ⟨sm, lt⟩ := o2
    have nu : ∀ p ∈ w.1, ∀ k ∈ p, k ∉ [s, o] := fun p hp k hk z => by
      rcases List.mem_cons.mp z with rfl | z
      · exact g.free p hp k hk sm
      · rw [List.mem_singleton.mp z] at hk
        exact g.free p hp o hk o1
    refine ⟨fun p hp => ?_, fun p hp q hq ne k hk => ?_, fun p hp k hk z => ?_, Nat.le_trans (List.length_filter_le _ _) g.len⟩
    · rcases List.mem_append.mp hp with hp | hp
      · exact g.two p hp
      · exact ⟨s, o, List.mem_singleton.mp hp, lt⟩
    · rcases List.mem_append.mp hp with hp | hp <;> rcases List.mem_append.mp hq with hq | hq
      · exact g.apart p hp q hq ne k hk
      · rw [List.mem_singleton.mp hq]
        exact nu p hp k hk
      · rw [List.mem_singleton.mp hp] at hk
        exact fun z => nu q hq k z hk
      · exact absurd ((List.mem_singleton.mp hp).trans (List.mem_singleton.mp hq).symm) ne
    · obtain ⟨z1, z2⟩ := List.mem_filter.mp z
      rcases List.mem_append.mp hp with hp | hp
      · exact g.free p hp k hk z1
      · rw [List.mem_singleton.mp hp] at hk
        rw [decide_eq_true hk] at z2
        cases z2
end BH
namespace BH
open PySem L2 TL K58 K13 BD BG
open BF (holdB holdsB holdsB_iff lotT)
abbrev wT2 (w : Way) : T := .tup [lotT w.1, lineT w.2]
end BH
namespace BH
open PySem L2 TL K58 K13 BD BG
open BF (holdB holdsB holdsB_iff lotT)
def St (h : VH) (t : T) (W : List Way) : Prop := t = .lst (W.map wT2) ∨ ∃ q, t = .ref q ∧ h[q]? = some (.lst (W.map wT2))
theorem St.seq {h : VH} {t : T} {W : List Way} (s : St h t W) (r : VH) : seqS (h ++ r) t = some (W.map wT2) := by
  rcases s with rfl | ⟨q, rfl, e⟩
  · rfl
  · show TL.listOf (h ++ r) (.ref q) = _
    have : (h ++ r)[q]? = some (.lst (W.map wT2)) := by
      rw [List.getElem?_append_left (List.getElem?_eq_some_iff.mp e).1]
      exact e
    unfold TL.listOf
    simp only [this]
end BH
namespace BF
open PySem L2 TL K13 K21 BD BE
end BF
namespace WJ
open PySem L2 TL K13 BG
open BD hiding Iv
open K58
abbrev sF : MS := sRet (eK (.bl false))
abbrev t2 : MS := (sSet 2 (eCall K58.m_law_of (aCons (eVar 0) (aCons (eL (aLim (aCons (eK (.int 1)) (aCons (eK (.int 2)) (aCons (eK (.int 4)) (aCons (eK (.int 9)) (aCons (eK (.int 30)) aNil))))))) aNil))))
abbrev t3 : MS := (sSet 3 (eCall K66.m_law_frame (aCons (eVar 0) (aCons (eVar 2) (aCons (eCall K58.m_law_of (aCons (eVar 0) (aCons (eL (aLim (aCons (eK (.int 0)) (aCons (eK (.int 3)) (aCons (eK (.int 8)) (aCons (eK (.int 30)) aNil)))))) aNil))) (aCons (eCall K58.m_law_of (aCons (eVar 0) (aCons (eL (aLim (aCons (eK (.int 0)) (aCons (eK (.int 2)) (aCons (eVar 2) aNil))))) aNil))) aNil))))))
abbrev t4 : MS := (sPar 4 5 (aCons (eOp TL.bAdd (eK (.int 1)) (eCall K58.m_law_take (aCons (eVar 0) (aCons (eK (.int 9)) aNil)))) (aCons (eCall K66.m_law_made (aCons (eVar 3) aNil)) aNil)))
abbrev t6 : MS := (sSet 6 (eCall K54.m_law_heavy (aCons (eVar 3) (aCons (eVar 4) aNil))))
abbrev t6c : MS := (sIf (bTest (eOp TL.bNe (eCall K13.m_weight (aCons (eVar 5) (aCons (eVar 4) aNil))) (eVar 6))) sF sNil)
abbrev t7 : MS := (sSet 7 (eOp TL.bAdd (eTup (aCons (eK (.str "weight")) aNil)) (eCall K66.m_law_said (aCons (eVar 3) aNil))))
abbrev clE (i j : Nat) : ME := (eOp TL.bAdd (eOp TL.bAdd (eVar 7) (eTup (aCons (eVar i) aNil))) (eVar j))
abbrev t7c : MS := (sIf (TL.bNot (bTest (eCall K66.m_law_judge (aCons (clE 4 6) (aCons (eK .non) (aCons (eK (.bl true)) aNil)))))) sF sNil)
abbrev dE (i : Int) : ME := eOp TL.bIx (eVar 6) (eK (.int i))
abbrev t8 : MS := (sSet 8 (eL (aLim (aCons (eTup (aCons (eOp TL.bMul (eK (.int 2)) (dE 0)) (aCons (eOp TL.bMul (eK (.int 2)) (dE 1)) aNil))) (aCons (eTup (aCons (eOp TL.bAdd (dE 0) (eK (.int 1))) (aCons (dE 1) aNil))) (aCons (eTup (aCons (dE 0) (aCons (eOp TL.bAdd (dE 1) (eK (.int 1))) aNil))) aNil))))))
abbrev t9 : MS := (sSet 8 (eOp TL.bAdd (eVar 8) (eL (aLim (aCons (eTup (aCons (eNeg (dE 0)) (aCons (eNeg (dE 1)) aNil))) (aCons (eTup (aCons (dE 0) (aCons (eK (.int 0)) aNil))) aNil))))))
abbrev t10 : MS := (sSet 8 (eOp TL.bAdd (eVar 8) (eL (aLim (aCons (eTup (aCons (dE 0) (aCons (eK .non) aNil))) (aCons (eTup (aCons (eK .non) (aCons (dE 1) aNil))) (aCons (eTup (aCons (eCall fStr (aCons (dE 0) aNil)) (aCons (dE 1) aNil))) aNil)))))))
abbrev t11 : MS := (sSet 8 (eOp TL.bAdd (eVar 8) (eL (aLim (aCons (eTup (aCons (dE 1) (aCons (dE 0) aNil))) (aCons (eTup (aCons (eK (.int 0)) (aCons (eK (.int 2)) aNil))) (aCons (eTup (aCons (eK (.int 0)) (aCons (eK (.int 1)) aNil))) aNil)))))))
abbrev u9 : MS := (sIf (TL.bNot (bTest (eCall K66.m_law_judge (aCons (clE 4 9) (aCons (eK .non) (aCons (eOp TL.bEq (eCall fRepr (aCons (eVar 9) aNil)) (eCall fRepr (aCons (eVar 6) aNil))) aNil)))))) sF sNil)
abbrev t12 : MS := (sFor (iSeqC (eVar 8)) (mgName 9) u9)
abbrev u10 : MS := (sIf (TL.bNot (bTest (eCall K66.m_law_judge (aCons (clE 10 6) (aCons (eK .non) (aCons (eK (.bl false)) aNil)))))) sF sNil)
abbrev t13 : MS := (sFor (iSeqC (eL (aLim (aCons (eK (.int 0)) (aCons (eK (.int 10)) (aCons (eNeg (eVar 4)) (aCons (eK .non) (aCons (eK (.bl true)) (aCons (eK (.str "1")) (aCons (eTup (aCons (eVar 4) aNil)) aNil)))))))))) (mgName 10) u10)
abbrev u11 : MS := (sIf (TL.bNot (bTest (eCall K66.m_law_judge (aCons (clE 4 6) (aCons (eVar 11) (aCons (eK (.bl false)) aNil)))))) sF sNil)
abbrev t14 : MS := (sFor (iSeqC (eL (aLim (aCons (eTup aNil) (aCons (eK (.int 0)) (aCons (eK (.bl false)) (aCons (eK (.str "")) (aCons (eVar 6) (aCons (eTup (aCons (eK .non) aNil)) (aCons eDNew aNil)))))))))) (mgName 11) u11)
abbrev tB : MS := sSeq t2 (sSeq t3 (sSeq t4 (sSeq t6 (sSeq t6c (sSeq t7 (sSeq t7c (sSeq t8 (sSeq t9 (sSeq t10 (sSeq t11 (sSeq t12 (sSeq t13 t14))))))))))))
theorem t_eq : K54.s_law_right = sSeq (sFor (iRange1 (aCons (eK (.int 8)) aNil)) (mgName 1) tB) (sRet (eK (.bl true))) := rfl
abbrev eF (n : Nat) (a1 a2 a3 a4 a5 a6 a7 a8 a9 a10 a11 : Option T) : TS_ := [some (.ref n), a1, a2, a3, a4, a5, a6, a7, a8, a9, a10, a11]
theorem loop_ok {mi : MI} {body : MS} {j : Nat} {h0 h : VH} {rd : VH → Option (List T)} {ts : List T} (F : Option T → TS_) (u : Option T) (hm : mi (F u) h0 = .ok rd h) (hrd : rd h = some ts) (mg : ∀ t u, mgName j t (F u) = fun h => .ok (F (some t)) h) (hb : ∀ t ∈ ts, body (F (some t)) h = .nx (F (some t)) h) : ∃ u', sFor mi (mgName j) body (F u) h0 = .nx (F u') h := by
  obtain ⟨τ', h', z, rfl, u', rfl⟩ := sFor_inv (mi := mi) (g := mgName j) (body := body) (τ := F u) (h := h0) (h1 := h) (rd := rd) (ts := ts)
    (fun i τ h' => h' = h ∧ ∃ u, τ = F u) hm ⟨rfl, u, rfl⟩ (fun _ _ _ J => by rw [J.1]; exact hrd) (fun i hi τ h' J => by
      obtain ⟨rfl, u, rfl⟩ := J
      exact ⟨F (some ts[i]), h', _, h', by rw [mg], .inl (hb _ (List.getElem_mem hi)), rfl, _, rfl⟩)
  exact ⟨u', z⟩
section
variable {n size : Nat} {rows : List (List Nat)} {mine its : List Nat} {h : VH}
theorem ne_two2 {u l : Nat} (h : VH) : TL.bNe (.tup [nI u, nI l]) (.tup [nI u, nI l]) h = .ok (.bl false) h := by
  have e : T.dat h 10 (.tup [nI u, nI l]) = some (.tuple [.int (u : Nat), .int (l : Nat)]) := rfl
  have p : PyData.eqv (.tuple [.int (u : Nat), .int (l : Nat)]) (.tuple [.int (u : Nat), .int (l : Nat)]) = true := by simp [PyData.eqv, PyData.eqvAll]
  unfold TL.bNe bEqG
  rw [e]
  simp only [p, Bool.not_true]
theorem tB_ok (I : BG.Iv n h) (a1 a2 a3 a4 a5 a6 a7 a8 a9 a10 a11 : Option T) :
    ∃ b2 b3 b4 b5 b6 b7 b8 b9 b10 b11 h', tB (eF n a1 a2 a3 a4 a5 a6 a7 a8 a9 a10 a11) h = .nx (eF n a1 b2 b3 b4 b5 b6 b7 b8 b9 b10 b11) h' ∧ BG.Iv n h' := by
  obtain ⟨size, hz, x1, e1, io1⟩ := ofN_ok I [1, 2, 4, 9, 30] (by simp) (by simp)
  have I1 := I.set io1
  have s0 : 0 < size ∧ size ≤ 30 := by
    simp only [List.mem_cons, List.not_mem_nil, or_false] at hz
    omega
  obtain ⟨k1, hk1⟩ : ∃ k1, k1 = h.set n x1 := ⟨_, rfl⟩
  rw [← hk1] at e1 I1
  have S2 : t2 (eF n a1 a2 a3 a4 a5 a6 a7 a8 a9 a10 a11) h = .nx (eF n a1 (some (nI size)) a3 a4 a5 a6 a7 a8 a9 a10 a11) k1 :=
    EV.set (EV.call (m := K58.m_law_of) (EV.cons (EV.var rfl) (EV.cons (EV.lst (EV.lim (EV.cons EV.const (EV.cons EV.const (EV.cons EV.const (EV.cons EV.const (EV.cons EV.const EV.nil))))) (by simp))) EV.nil)) e1) rfl
  obtain ⟨most, hm, x2, e2, io2⟩ := ofN_ok I1 [0, 3, 8, 30] (by simp) (by simp)
  have mz : most ≤ 30 := by
    simp only [List.mem_cons, List.not_mem_nil, or_false] at hm
    omega
  have I2 := I1.set io2
  obtain ⟨k2, hk2⟩ : ∃ k2, k2 = k1.set n x2 := ⟨_, rfl⟩
  rw [← hk2] at e2 I2
  obtain ⟨taken, ht, x3, e3, io3⟩ := ofN_ok I2 [0, 2, size] (by simp) (by simp)
  have tz : taken ≤ 30 := by
    simp only [List.mem_cons, List.not_mem_nil, or_false] at ht
    omega
  have I3 := I2.set io3
  obtain ⟨k3, hk3⟩ : ∃ k3, k3 = k2.set n x3 := ⟨_, rfl⟩
  rw [← hk3] at e3 I3
  obtain ⟨rows, mine, its, k4, e4, I4, R, five, M, Hd, _⟩ := BG.frame_ok (size := size) I3 s0.1 s0.2 mz tz
  have S3 : t3 (eF n a1 (some (nI size)) a3 a4 a5 a6 a7 a8 a9 a10 a11) k1 = .nx (eF n a1 (some (nI size)) (some (frameT size rows mine its)) a4 a5 a6 a7 a8 a9 a10 a11) k4 :=
    EV.set (EV.call (EV.cons (EV.var rfl) (EV.cons (EV.var rfl) (EV.cons (EV.call (m := K58.m_law_of) (EV.cons (EV.var rfl) (EV.cons (EV.lst (EV.lim (EV.cons EV.const (EV.cons EV.const (EV.cons EV.const (EV.cons EV.const EV.nil)))) (by simp))) EV.nil)) e2) (EV.cons (EV.call (m := K58.m_law_of) (EV.cons (EV.var rfl) (EV.cons (EV.lst (EV.lim (EV.cons EV.const (EV.cons EV.const (EV.cons (EV.var rfl) EV.nil))) (by simp))) EV.nil)) e3) EV.nil)))) e4) rfl
  obtain ⟨r, x5, e5, r9, io5⟩ := BG.tk_ok (k := 9) I4 (by omega) (by omega)
  have I5 := I4.set io5
  obtain ⟨k5, hk5⟩ : ∃ k5, k5 = k4.set n x5 := ⟨_, rfl⟩
  rw [← hk5] at e5 I5
  have low := I5.fl.low k5.length
  obtain ⟨m, hm'⟩ : ∃ m, m = r + 1 := ⟨_, rfl⟩
  have m1 : 1 ≤ m := by omega
  have m9 : m ≤ 9 := by omega
  have mk := made_ok R M Hd low
  have hv := heavy_ok (mine := mine) (its := its) R five m9 low
  have sd := said_ok (mine := mine) (its := its) R k5
  have W := weight_ok (mine := mine) (its := its) R m1 m9 k5
  have r5 : ∀ r ∈ restsL rows mine its, r.length ≤ 5 := fun r hr => rests5 five hr
  have rl := rests_len (mine := mine) (its := its) R
  have M5 := lng_le r5
  have W3 := wsum_le m9 r5 rl
  obtain ⟨pM0, pM1⟩ := pow5 (n := lng (restsL rows mine its)) m9 M5
  have f := Frac.of (X := wsum m (lng (restsL rows mine its)) (restsL rows mine its)) (Y := (m + 1) ^ lng (restsL rows mine its)) pM0
  have sm := same_ok (mine := mine) (its := its) R (m := m)
  rw [sm] at W
  unfold heavyT at W hv
  have ub := Nat.div_le_self (wsum m (lng (restsL rows mine its)) (restsL rows mine its)) (Nat.gcd (wsum m (lng (restsL rows mine its)) (restsL rows mine its)) ((m + 1) ^ lng (restsL rows mine its)))
  have lb := Nat.div_le_self ((m + 1) ^ lng (restsL rows mine its)) (Nat.gcd (wsum m (lng (restsL rows mine its)) (restsL rows mine its)) ((m + 1) ^ lng (restsL rows mine its)))
  obtain ⟨u, hu⟩ : ∃ u, u = wsum m (lng (restsL rows mine its)) (restsL rows mine its) / Nat.gcd (wsum m (lng (restsL rows mine its)) (restsL rows mine its)) ((m + 1) ^ lng (restsL rows mine its)) := ⟨_, rfl⟩
  obtain ⟨l, hl⟩ : ∃ l, l = (m + 1) ^ lng (restsL rows mine its) / Nat.gcd (wsum m (lng (restsL rows mine its)) (restsL rows mine its)) ((m + 1) ^ lng (restsL rows mine its)) := ⟨_, rfl⟩
  rw [← hu, ← hl] at f W hv
  rw [← hu] at ub
  rw [← hl] at lb
  have l1 := f.pos
  have uB : u ≤ 3000000 := by omega
  have lB : l ≤ 100000 := by omega
  obtain ⟨Fr, hFr⟩ : ∃ Fr, Fr = frameT size rows mine its := ⟨_, rfl⟩
  obtain ⟨S, hS⟩ : ∃ S, S = standT size rows mine its := ⟨_, rfl⟩
  obtain ⟨Bg, hBg⟩ : ∃ Bg, Bg = T.tup [.str "weight", .str (boardS size rows), lineT mine, lineT its] := ⟨_, rfl⟩
  rw [← hFr] at S3 mk hv sd
  rw [← hS] at mk W
  have S4 : t4 (eF n a1 (some (nI size)) (some Fr) a4 a5 a6 a7 a8 a9 a10 a11) k4 = .nx (eF n a1 (some (nI size)) (some Fr) (some (nI m)) (some S) a6 a7 a8 a9 a10 a11) k5 := by
    refine EV.par (EV.cons (EV.op EV.const (EV.call (m := K58.m_law_take) (EV.cons (EV.var rfl) (EV.cons EV.const EV.nil)) e5) (hAdd _ _ k5)) (EV.cons (EV.call (EV.cons (EV.var rfl) EV.nil) mk) EV.nil)) ?_
    have e : (1 : Int) + ((r : Nat) : Int) = ((m : Nat) : Int) := by omega
    rw [e]
    rfl
  have S6 : t6 (eF n a1 (some (nI size)) (some Fr) (some (nI m)) (some S) a6 a7 a8 a9 a10 a11) k5 = .nx (eF n a1 (some (nI size)) (some Fr) (some (nI m)) (some S) (some (.tup [nI u, nI l])) a7 a8 a9 a10 a11) k5 := EV.set (EV.call (EV.cons (EV.var rfl) (EV.cons (EV.var rfl) EV.nil)) hv) rfl
  have S6c : t6c (eF n a1 (some (nI size)) (some Fr) (some (nI m)) (some S) (some (.tup [nI u, nI l])) a7 a8 a9 a10 a11) k5 = .nx (eF n a1 (some (nI size)) (some Fr) (some (nI m)) (some S) (some (.tup [nI u, nI l])) a7 a8 a9 a10 a11) k5 := (if_f (EV.test (EV.op (EV.call (EV.cons (EV.var rfl) (EV.cons (EV.var rfl) EV.nil)) W) (EV.var rfl) (ne_two2 k5)))).trans rfl
  have S7 : t7 (eF n a1 (some (nI size)) (some Fr) (some (nI m)) (some S) (some (.tup [nI u, nI l])) a7 a8 a9 a10 a11) k5 = .nx (eF n a1 (some (nI size)) (some Fr) (some (nI m)) (some S) (some (.tup [nI u, nI l])) (some Bg) a8 a9 a10 a11) k5 := by
    rw [hBg]
    exact EV.set (EV.op (EV.tup (EV.cons EV.const EV.nil) (Nat.le_of_ble_eq_true rfl)) (EV.call (EV.cons (EV.var rfl) EV.nil) sd) (EV.addT (Nat.le_of_ble_eq_true rfl))) rfl
  obtain ⟨F, hF⟩ : ∃ F : Option T → Option T → Option T → Option T → TS_, F = fun b8 b9 b10 b11 => eF n a1 (some (nI size)) (some Fr) (some (nI m)) (some S) (some (.tup [nI u, nI l])) (some Bg) b8 b9 b10 b11 := ⟨_, rfl⟩
  have v4 : ∀ b8 b9 b10 b11 k, eVar 4 (F b8 b9 b10 b11) k = .ok (nI m) k := fun _ _ _ _ _ => by rw [hF]; rfl
  have v6 : ∀ b8 b9 b10 b11 k, eVar 6 (F b8 b9 b10 b11) k = .ok (.tup [nI u, nI l]) k := fun _ _ _ _ _ => by rw [hF]; rfl
  have v7 : ∀ b8 b9 b10 b11 k, eVar 7 (F b8 b9 b10 b11) k = .ok Bg k := fun _ _ _ _ _ => by rw [hF]; rfl
  have v8 : ∀ t b9 b10 b11 k, eVar 8 (F (some t) b9 b10 b11) k = .ok t k := fun _ _ _ _ _ => by rw [hF]; rfl
  have v9 : ∀ b8 t b10 b11 k, eVar 9 (F b8 (some t) b10 b11) k = .ok t k := fun _ _ _ _ _ => by rw [hF]; rfl
  have v10 : ∀ b8 b9 t b11 k, eVar 10 (F b8 b9 (some t) b11) k = .ok t k := fun _ _ _ _ _ => by rw [hF]; rfl
  have v11 : ∀ b8 b9 b10 t k, eVar 11 (F b8 b9 b10 (some t)) k = .ok t k := fun _ _ _ _ _ => by rw [hF]; rfl
  have cl : ∀ (i j : Nat) (a b c : T) (τ : TS_) (k : VH), eVar 7 τ k = .ok Bg k → eVar i τ k = .ok a k → eVar j τ k = .ok (.tup [b, c]) k → clE i j τ k = .ok (clT size rows mine its a b c) k := fun i j a b c τ k w7 wi wj => by
    refine EV.op (EV.op w7 (EV.tup (EV.cons wi EV.nil) (Nat.le_of_ble_eq_true rfl)) (by rw [hBg]; exact EV.addT (Nat.le_of_ble_eq_true rfl))) wj ?_
    exact EV.addT (Nat.le_of_ble_eq_true rfl)
  have d0 : ∀ b8 b9 b10 b11, dE 0 (F b8 b9 b10 b11) k5 = .ok (nI u) k5 := fun _ _ _ _ => EV.op (v6 _ _ _ _ _) EV.const (EV.ixT (EV.at_nat (i := 0) rfl))
  have d1 : ∀ b8 b9 b10 b11, dE 1 (F b8 b9 b10 b11) k5 = .ok (nI l) k5 := fun _ _ _ _ => EV.op (v6 _ _ _ _ _) EV.const (EV.ixT (EV.at_nat (i := 1) rfl))
  have ju : ∀ (a b c p : T) (B : Bool) (k : VH) (τ : TS_) (i j : Nat) (pe de : ME), clE i j τ k = .ok (clT size rows mine its a b c) k → pe τ k = .ok p k → de τ k = .ok (.bl B) k → K66.m_accepts [clT size rows mine its a b c, p] k = .ok (.bl B) k → sIf (TL.bNot (bTest (eCall K66.m_law_judge (aCons (clE i j) (aCons pe (aCons de aNil)))))) sF sNil τ k = .nx τ k := fun a b c p B k τ i j pe de w1 w2 w3 ac =>
    (if_f (EV.not (p := true) (EV.test (EV.call (EV.cons w1 (EV.cons w2 (EV.cons w3 EV.nil))) (judge_ok ac))))).trans rfl
  have S7c : t7c (F a8 a9 a10 a11) k5 = .nx (F a8 a9 a10 a11) k5 := by
    have ac := acc_nat R M Hd five m1 m9 f (v := u) (k := l) l1 (by omega) low
    rw [decide_eq_true ⟨rfl, rfl⟩] at ac
    exact ju _ _ _ _ _ _ _ 4 6 _ _ (cl 4 6 _ _ _ _ _ (v7 _ _ _ _ _) (v4 _ _ _ _ _) (v6 _ _ _ _ _)) EV.const EV.const ac
  obtain ⟨P, hP⟩ : ∃ P : List (T × T), P = [(nI (2 * u), nI (2 * l)), (nI (u + 1), nI l), (nI u, nI (l + 1)), (.int (-(u : Nat)), .int (-(l : Nat))), (nI u, nI 0), (nI u, .non), (.non, nI l), (.str (it u), nI l), (nI l, nI u), (nI 0, nI 2), (nI 0, nI 1)] := ⟨_, rfl⟩
  obtain ⟨Lp, hLp⟩ : ∃ Lp, Lp = P.map fun e => T.tup [e.1, e.2] := ⟨_, rfl⟩
  have S11 : sSeq t8 (sSeq t9 (sSeq t10 t11)) (F a8 a9 a10 a11) k5 = .nx (F (some (.lst Lp)) a9 a10 a11) k5 := by
    have mu : ∀ a : Nat, a ≤ 3000000 → TL.bMul (.int 2) (nI a) k5 = .ok (nI (2 * a)) k5 := fun a ha => (bMulL (by omega) (by omega) k5).trans (congrArg (fun z => Res.ok (T.int z) k5) (by omega))
    have ad : ∀ a : Nat, TL.bAdd (nI a) (.int 1) k5 = .ok (nI (a + 1)) k5 := fun a => hAdd _ _ k5
    have tw : ∀ (a b : T), [a, b].length ≤ 16777216 := fun a b => Nat.le_of_ble_eq_true rfl
    have T8 : t8 (F a8 a9 a10 a11) k5 = .nx (F (some (.lst (Lp.take 3))) a9 a10 a11) k5 := by
      refine EV.set (EV.lst (EV.lim (EV.cons (EV.tup (EV.cons (EV.op EV.const (d0 _ _ _ _) (mu u uB)) (EV.cons (EV.op EV.const (d1 _ _ _ _) (mu l (by omega))) EV.nil)) (tw _ _)) (EV.cons (EV.tup (EV.cons (EV.op (d0 _ _ _ _) EV.const (ad u)) (EV.cons (d1 _ _ _ _) EV.nil)) (tw _ _)) (EV.cons (EV.tup (EV.cons (d0 _ _ _ _) (EV.cons (EV.op (d1 _ _ _ _) EV.const (ad l)) EV.nil)) (tw _ _)) EV.nil))) (Nat.le_of_ble_eq_true rfl))) ?_
      rw [hLp, hP, hF]
      rfl
    have T9 : t9 (F (some (.lst (Lp.take 3))) a9 a10 a11) k5 = .nx (F (some (.lst (Lp.take 5))) a9 a10 a11) k5 := by
      refine EV.set (EV.op (v8 _ _ _ _ _) (EV.lst (EV.lim (EV.cons (EV.tup (EV.cons (EV.neg (d0 _ _ _ _)) (EV.cons (EV.neg (d1 _ _ _ _)) EV.nil)) (tw _ _)) (EV.cons (EV.tup (EV.cons (d0 _ _ _ _) (EV.cons EV.const EV.nil)) (tw _ _)) EV.nil)) (Nat.le_of_ble_eq_true rfl))) (EV.addL (by rw [hLp, hP]; exact Nat.le_of_ble_eq_true rfl))) ?_
      rw [hLp, hP, hF]
      rfl
    have T10 : t10 (F (some (.lst (Lp.take 5))) a9 a10 a11) k5 = .nx (F (some (.lst (Lp.take 8))) a9 a10 a11) k5 := by
      refine EV.set (EV.op (v8 _ _ _ _ _) (EV.lst (EV.lim (EV.cons (EV.tup (EV.cons (d0 _ _ _ _) (EV.cons EV.const EV.nil)) (tw _ _)) (EV.cons (EV.tup (EV.cons EV.const (EV.cons (d1 _ _ _ _) EV.nil)) (tw _ _)) (EV.cons (EV.tup (EV.cons (EV.call (EV.cons (d0 _ _ _ _) EV.nil) (str_m (by omega) k5)) (EV.cons (d1 _ _ _ _) EV.nil)) (tw _ _)) EV.nil))) (Nat.le_of_ble_eq_true rfl))) (EV.addL (by rw [hLp, hP]; exact Nat.le_of_ble_eq_true rfl))) ?_
      rw [hLp, hP, hF]
      rfl
    have T11 : t11 (F (some (.lst (Lp.take 8))) a9 a10 a11) k5 = .nx (F (some (.lst Lp)) a9 a10 a11) k5 := by
      refine EV.set (EV.op (v8 _ _ _ _ _) (EV.lst (EV.lim (EV.cons (EV.tup (EV.cons (d1 _ _ _ _) (EV.cons (d0 _ _ _ _) EV.nil)) (tw _ _)) (EV.cons (EV.tup (EV.cons EV.const (EV.cons EV.const EV.nil)) (tw _ _)) (EV.cons (EV.tup (EV.cons EV.const (EV.cons EV.const EV.nil)) (tw _ _)) EV.nil))) (Nat.le_of_ble_eq_true rfl))) (EV.addL (by rw [hLp, hP]; exact Nat.le_of_ble_eq_true rfl))) ?_
      rw [hLp, hP, hF]
      rfl
    exact (seq_nx T8).trans ((seq_nx T9).trans ((seq_nx T10).trans T11))
  have all : ∀ e ∈ P, Jd size rows mine its m u l e.1 e.2 := fun e he => by
    rw [hP] at he
    simp only [List.mem_cons, List.not_mem_nil, or_false] at he
    rcases he with rfl | rfl | rfl | rfl | rfl | rfl | rfl | rfl | rfl | rfl | rfl
    · exact jd_nat R M Hd five m1 m9 f (by omega) (by omega) (by omega)
    · exact jd_nat R M Hd five m1 m9 f (by omega) (by omega) (by omega)
    · exact jd_nat R M Hd five m1 m9 f (by omega) (by omega) (by omega)
    · exact jd_out R M Hd (by omega) (by omega) (by omega) l1
    · exact jd_out R M Hd (v := (u : Nat)) (k := ((0 : Nat) : Int)) (by omega) (by omega) (by omega) l1
    · exact jd_odd R M Hd (tx_int (c := (u : Nat)) (by omega)) tx_non rfl none_2
    · exact jd_odd R M Hd tx_non (tx_int (c := (l : Nat)) (by omega)) rfl none_1
    · exact jd_odd R M Hd (tx_str (c := (u : Nat)) (by omega)) (tx_int (c := (l : Nat)) (by omega)) rfl repr_it
    · rcases Nat.eq_zero_or_pos u with z | z
      · exact jd_out R M Hd (v := (l : Nat)) (k := (u : Nat)) (by omega) (by omega) (by omega) l1
      · exact jd_nat R M Hd five m1 m9 f (by omega) z (by omega)
    · exact jd_nat R M Hd five m1 m9 f (by omega) (by omega) (by omega)
    · exact jd_nat R M Hd five m1 m9 f (by omega) (by omega) (by omega)
  have rd : fRepr [.tup [nI u, nI l]] k5 = .ok (.str (tupleText [it u, it l])) k5 := repr2 (tx_int (c := (u : Nat)) (by omega)) (tx_int (c := (l : Nat)) (by omega)) k5
  obtain ⟨c9, S12⟩ := loop_ok (mi := iSeqC (eVar 8)) (body := u9) (j := 9) (h0 := k5) (h := k5) (rd := fun h => seqS h (.lst Lp)) (ts := Lp) (fun u => F (some (.lst Lp)) u a10 a11) a9 (BF.iseq_ok (t := .lst Lp) (v8 _ _ _ _ _) rfl) rfl (fun t u => by rw [hF]; rfl) (fun t ht => by
    rw [hLp] at ht
    obtain ⟨e, he, rfl⟩ := List.mem_map.mp ht
    obtain ⟨s, B, r1, r2, ac⟩ := (all e he).ok k5 low
    exact ju _ _ _ _ _ _ _ 4 9 _ _ (cl 4 9 _ _ _ _ _ (v7 _ _ _ _ _) (v4 _ _ _ _ _) (v9 _ _ _ _ _)) EV.const (EV.op (EV.call (EV.cons (v9 _ _ _ _ _) EV.nil) r1) (EV.call (EV.cons (v6 _ _ _ _ _) EV.nil) rd) (by rw [eq_strs, r2])) ac)
  have pu : WJ.pd (nI u) = some (.int (u : Nat)) := rfl
  have pl : WJ.pd (nI l) = some (.int (l : Nat)) := rfl
  obtain ⟨Q, hQ⟩ : ∃ Q : List T, Q = [.int 0, .int 10, .int (-(m : Nat)), .non, .bl true, .str "1", .tup [nI m]] := ⟨_, rfl⟩
  have odd : ∀ t ∈ Q, K66.m_accepts [clT size rows mine its t (nI u) (nI l), .non] k5 = .ok (.bl false) k5 := fun t ht => by
    rw [hQ] at ht
    simp only [List.mem_cons, List.not_mem_nil, or_false] at ht
    rcases ht with rfl | rfl | rfl | rfl | rfl | rfl | rfl
    · exact acc_no R M Hd (x := .int 0) rfl pu pl (fun q s => isw_out (.inl (by omega)) q) low
    · exact acc_no R M Hd (x := .int 10) rfl pu pl (fun q s => isw_out (.inr (.inl (by omega))) q) low
    · exact acc_no R M Hd (x := .int (-(m : Nat))) rfl pu pl (fun q s => isw_out (.inl (by omega)) q) low
    · exact acc_no R M Hd (x := .none) rfl pu pl (fun q s => isw_odd rfl rfl q) low
    · exact acc_no R M Hd (x := .bool true) rfl pu pl (fun q s => isw_odd rfl rfl q) low
    · exact acc_no R M Hd (x := .str "1") rfl pu pl (fun q s => isw_odd rfl rfl q) low
    · exact acc_no R M Hd (x := .tuple [.int (m : Nat)]) rfl pu pl (fun q s => isw_odd rfl rfl q) low
  obtain ⟨c10, S13⟩ := loop_ok (mi := (iSeqC (eL (aLim (aCons (eK (.int 0)) (aCons (eK (.int 10)) (aCons (eNeg (eVar 4)) (aCons (eK .non) (aCons (eK (.bl true)) (aCons (eK (.str "1")) (aCons (eTup (aCons (eVar 4) aNil)) aNil))))))))))) (body := u10) (j := 10) (h0 := k5) (h := k5) (rd := fun h => seqS h (.lst Q)) (ts := Q) (fun u => F (some (.lst Lp)) c9 u a11) a10 (BF.iseq_ok (t := .lst Q) (by
      rw [hQ]
      exact EV.lst (EV.lim (EV.cons EV.const (EV.cons EV.const (EV.cons (EV.neg (v4 _ _ _ _ _)) (EV.cons EV.const (EV.cons EV.const (EV.cons EV.const (EV.cons (EV.tup (EV.cons (v4 _ _ _ _ _) EV.nil) (Nat.le_of_ble_eq_true rfl)) EV.nil))))))) (Nat.le_of_ble_eq_true rfl))) rfl) rfl (fun t u => by rw [hF]; rfl) (fun t ht => ju _ _ _ _ _ _ _ 10 6 _ _ (cl 10 6 _ _ _ _ _ (v7 _ _ _ _ _) (v10 _ _ _ _ _) (v6 _ _ _ _ _)) EV.const EV.const (odd t ht))
  obtain ⟨k6, hk6⟩ : ∃ k6, k6 = k5 ++ [VO.dct []] := ⟨_, rfl⟩
  have I6 : BG.Iv n k6 := by rw [hk6]; exact I5.app fun m => rfl
  have low6 := I6.fl.low k6.length
  obtain ⟨Z, hZ⟩ : ∃ Z : List T, Z = [.tup [], .int 0, .bl false, .str "", .tup [nI u, nI l], .tup [.non], .ref k5.length] := ⟨_, rfl⟩
  obtain ⟨c11, S14⟩ := loop_ok (mi := (iSeqC (eL (aLim (aCons (eTup aNil) (aCons (eK (.int 0)) (aCons (eK (.bl false)) (aCons (eK (.str "")) (aCons (eVar 6) (aCons (eTup (aCons (eK .non) aNil)) (aCons eDNew aNil))))))))))) (body := u11) (j := 11) (h0 := k5) (h := k6) (rd := fun h => seqS h (.lst Z)) (ts := Z) (fun u => F (some (.lst Lp)) c9 c10 u) a11 (BF.iseq_ok (t := .lst Z) (by
      rw [hZ, hk6]
      exact EV.lst (EV.lim (EV.cons (EV.tup EV.nil (Nat.zero_le _)) (EV.cons EV.const (EV.cons EV.const (EV.cons EV.const (EV.cons (v6 _ _ _ _ _) (EV.cons (EV.tup (EV.cons EV.const EV.nil) (Nat.le_of_ble_eq_true rfl)) (EV.cons rfl EV.nil))))))) (Nat.le_of_ble_eq_true rfl))) rfl) rfl (fun t u => by rw [hF]; rfl) (fun t ht => by
      have np : TL.isNon t = false := by
        rw [hZ] at ht
        simp only [List.mem_cons, List.not_mem_nil, or_false] at ht
        rcases ht with rfl | rfl | rfl | rfl | rfl | rfl | rfl <;> rfl
      exact ju _ _ _ _ _ _ _ 4 6 _ _ (cl 4 6 _ _ _ _ _ (v7 _ _ _ _ _) (v4 _ _ _ _ _) (v6 _ _ _ _ _)) (v11 _ _ _ _ _) EV.const (acc_paper R M Hd (x := .int (m : Nat)) rfl pu pl np low6))
  have Z7 : t7 (eF n a1 (some (nI size)) (some Fr) (some (nI m)) (some S) (some (.tup [nI u, nI l])) a7 a8 a9 a10 a11) k5 = .nx (F a8 a9 a10 a11) k5 := S7.trans (by rw [hF])
  have tail : sSeq t8 (sSeq t9 (sSeq t10 (sSeq t11 (sSeq t12 (sSeq t13 t14))))) (F a8 a9 a10 a11) k5 = .nx (F (some (.lst Lp)) c9 c10 c11) k6 := by
    have as4 : ∀ (p q r s w : MS), sSeq p (sSeq q (sSeq r (sSeq s w))) (F a8 a9 a10 a11) k5 = sSeq (sSeq p (sSeq q (sSeq r s))) w (F a8 a9 a10 a11) k5 := fun p q r s w => by
      unfold sSeq
      cases p (F a8 a9 a10 a11) k5 with
      | nx τ h =>
        simp only
        cases q τ h with
        | nx τ h =>
          simp only
          cases r τ h with
          | nx τ h => rfl
          | _ => rfl
        | _ => rfl
      | _ => rfl
    rw [as4]
    exact (seq_nx S11).trans ((seq_nx S12).trans ((seq_nx S13).trans S14))
  rw [hF] at tail
  rw [hF] at Z7 S7c
  exact ⟨_, _, _, _, _, _, _, _, _, _, k6, (seq_nx S2).trans ((seq_nx S3).trans ((seq_nx S4).trans ((seq_nx S6).trans ((seq_nx S6c).trans ((seq_nx Z7).trans ((seq_nx S7c).trans tail)))))), I6⟩
theorem right54 {h : VH} (I : BG.Iv n h) : ∃ h', K54.m_law_right [.ref n] h = .ok (.bl true) h' ∧ BG.Iv n h' := by
  have D : K54.m_law_right = defM 12 1 K54.s_law_right := rfl
  have Lp := sFor_inv (mi := iRange1 (aCons (eK (.int 8)) aNil)) (g := mgName 1) (body := tB) (τ := startT 12 [.ref n]) (h := h) (h1 := h) (rd := fun _ => some (rangeT 0 8)) (ts := rangeT 0 8)
    (fun i τ h' => BG.Iv n h' ∧ ∃ a1 a2 a3 a4 a5 a6 a7 a8 a9 a10 a11, τ = eF n a1 a2 a3 a4 a5 a6 a7 a8 a9 a10 a11) (rngk (K := 8) rfl (by omega)) ⟨I, none, none, none, none, none, none, none, none, none, none, none, rfl⟩ (fun _ _ _ _ => rfl) (fun i hi τ h' J => by
      obtain ⟨I', a1, a2, a3, a4, a5, a6, a7, a8, a9, a10, a11, rfl⟩ := J
      obtain ⟨b2, b3, b4, b5, b6, b7, b8, b9, b10, b11, h2, e, I2⟩ := tB_ok I' (some (rangeT 0 8)[i]) a2 a3 a4 a5 a6 a7 a8 a9 a10 a11
      exact ⟨_, h', _, h2, rfl, .inl e, I2, _, b2, b3, b4, b5, b6, b7, b8, b9, b10, b11, rfl⟩)
  obtain ⟨τ', h', z, I', _⟩ := Lp
  rw [D, t_eq]
  exact ⟨h', defM_rt rfl ((seq_nx z).trans (ret_ok rfl)), I'⟩
end
end WJ
theorem K54.pure_law (ns : List Int) (hl : ns.length ≤ 63) : ∃ h', K54.m_law [.arg (ns.map TL.T.int)] [] = .ok (.bl true) h' :=
  BG.cases_ok (m := 5) (by omega) (by omega) (fun ns s h hs hf => BG.bag_ok hs hf) (fun n h I => WJ.right54 I) ns hl
namespace K54
open K58
open K06
open K13 hiding m_law_rows s_law_rows
open K66
open PySem PySem.Spec L2 TL
theorem nm_Sheet_lots {w : World} {K : PySem.W.Frag} : ("lots" : Str) ∉ (wd w K).fn 10 := (show ("lots" : Str) ∉ (["space", "left"] : List Str) by decide)
structure Gs (w : World) (K : PySem.W.Frag) (mg : Str → Option Value) : Prop where
  b_abs : mg "abs" = none
  b_all : mg "all" = none
  b_any : mg "any" = none
  b_bool : mg "bool" = none
  b_divmod : mg "divmod" = none
  b_enumerate : mg "enumerate" = none
  b_int : mg "int" = none
  b_isinstance : mg "isinstance" = none
  b_len : mg "len" = none
  b_list : mg "list" = none
  b_max : mg "max" = none
  b_min : mg "min" = none
  b_range : mg "range" = none
  b_repr : mg "repr" = none
  b_set : mg "set" = none
  b_sorted : mg "sorted" = none
  b_str : mg "str" = none
  b_sum : mg "sum" = none
  b_tuple : mg "tuple" = none
  b_zip : mg "zip" = none
  f_law_bag : mg "_law_bag" = some (.ref (He.ga K "_law_bag"))
  F_law_bag : FunD K "_law_bag" "_law_bag" (defArgs (top 91)) (defBody (top 91)) (defScope (top 91)) [] [] (He.ga K "_law_bag") (fdOf K (He.ga K "_law_bag"))
  f_law_take : mg "_law_take" = some (.ref (He.ga K "_law_take"))
  F_law_take : FunD K "_law_take" "_law_take" (defArgs (top 92)) (defBody (top 92)) (defScope (top 92)) [] [] (He.ga K "_law_take") (fdOf K (He.ga K "_law_take"))
  f_law_of : mg "_law_of" = some (.ref (He.ga K "_law_of"))
  F_law_of : FunD K "_law_of" "_law_of" (defArgs (top 93)) (defBody (top 93)) (defScope (top 93)) [] [] (He.ga K "_law_of") (fdOf K (He.ga K "_law_of"))
  f_law_rows : mg "_law_rows" = some (.ref (He.ga K "_law_rows"))
  F_law_rows : FunD K "_law_rows" "_law_rows" (defArgs (top 94)) (defBody (top 94)) (defScope (top 94)) [] [] (He.ga K "_law_rows") (fdOf K (He.ga K "_law_rows"))
  f_law_frame : mg "_law_frame" = some (.ref (He.ga K "_law_frame"))
  F_law_frame : FunD K "_law_frame" "_law_frame" (defArgs (top 95)) (defBody (top 95)) (defScope (top 95)) [] [] (He.ga K "_law_frame") (fdOf K (He.ga K "_law_frame"))
  f_law_common : mg "_law_common" = some (.ref (He.ga K "_law_common"))
  F_law_common : FunD K "_law_common" "_law_common" (defArgs (top 101)) (defBody (top 101)) (defScope (top 101)) [] [] (He.ga K "_law_common") (fdOf K (He.ga K "_law_common"))
  f_law_lots : mg "_law_lots" = some (.ref (He.ga K "_law_lots"))
  F_law_lots : FunD K "_law_lots" "_law_lots" (defArgs (top 99)) (defBody (top 99)) (defScope (top 99)) [] [] (He.ga K "_law_lots") (fdOf K (He.ga K "_law_lots"))
  f_law_heavy : mg "_law_heavy" = some (.ref (He.ga K "_law_heavy"))
  F_law_heavy : FunD K "_law_heavy" "_law_heavy" (defArgs (top 102)) (defBody (top 102)) (defScope (top 102)) [] [] (He.ga K "_law_heavy") (fdOf K (He.ga K "_law_heavy"))
  F_Sheet_lots : FunD K "lots" "Sheet.lots" (defArgs (mth 15 1)) (defBody (mth 15 1)) (defScope (mth 15 1)) [] [] (He.ma K (He.ga K "Sheet") "lots") (fdOf K (He.ma K (He.ga K "Sheet") "lots"))
  f_has_divisor : mg "has_divisor" = some (.ref (He.ga K "has_divisor"))
  F_has_divisor : FunD K "has_divisor" "has_divisor" (defArgs (top 45)) (defBody (top 45)) (defScope (top 45)) [] [] (He.ga K "has_divisor") (fdOf K (He.ga K "has_divisor"))
  f_is_whole : mg "is_whole" = some (.ref (He.ga K "is_whole"))
  F_is_whole : FunD K "is_whole" "is_whole" (defArgs (top 7)) (defBody (top 7)) (defScope (top 7)) [] [] (He.ga K "is_whole") (fdOf K (He.ga K "is_whole"))
  f_power_sheets : mg "power_sheets" = some (.ref (He.ga K "power_sheets"))
  F_power_sheets : FunD K "power" "power" (defArgs (top 8)) (defBody (top 8)) (defScope (top 8)) [] [] (He.ga K "power_sheets") (fdOf K (He.ga K "power_sheets"))
  f_is_weight : mg "is_weight" = some (.ref (He.ga K "is_weight"))
  F_is_weight : FunD K "is_weight" "is_weight" (defArgs (top 44)) (defBody (top 44)) (defScope (top 44)) [] [] (He.ga K "is_weight") (fdOf K (He.ga K "is_weight"))
  F_Sheet___init__ : FunD K "__init__" "Sheet.__init__" (defArgs (mth 15 0)) (defBody (mth 15 0)) (defScope (mth 15 0)) [] [] (He.ma K (He.ga K "Sheet") "__init__") (fdOf K (He.ma K (He.ga K "Sheet") "__init__"))
  f_is_rising : mg "is_rising" = some (.ref (He.ga K "is_rising"))
  F_is_rising : FunD K "is_rising" "is_rising" (defArgs (top 12)) (defBody (top 12)) (defScope (top 12)) [] [] (He.ga K "is_rising") (fdOf K (He.ga K "is_rising"))
  f_are_cells : mg "are_cells" = some (.ref (He.ga K "are_cells"))
  F_are_cells : FunD K "are_cells" "are_cells" (defArgs (top 14)) (defBody (top 14)) (defScope (top 14)) [] [] (He.ga K "are_cells") (fdOf K (He.ga K "are_cells"))
  f_number_told : mg "number_told" = some (.ref (He.ga K "number_told"))
  F_number_told : FunD K "number_told" "number_told" (defArgs (top 10)) (defBody (top 10)) (defScope (top 10)) [] [] (He.ga K "number_told") (fdOf K (He.ga K "number_told"))
  f_line_told : mg "line_told" = some (.ref (He.ga K "line_told"))
  F_line_told : FunD K "line_told" "line_told" (defArgs (top 11)) (defBody (top 11)) (defScope (top 11)) [] [] (He.ga K "line_told") (fdOf K (He.ga K "line_told"))
  f_board_told : mg "board_told" = some (.ref (He.ga K "board_told"))
  F_board_told : FunD K "board_told" "board_told" (defArgs (top 13)) (defBody (top 13)) (defScope (top 13)) [] [] (He.ga K "board_told") (fdOf K (He.ga K "board_told"))
  f_sheet_told : mg "sheet_told" = some (.ref (He.ga K "sheet_told"))
  F_sheet_told : FunD K "sheet_told" "sheet_told" (defArgs (top 16)) (defBody (top 16)) (defScope (top 16)) [] [] (He.ga K "sheet_told") (fdOf K (He.ga K "sheet_told"))
  f_shows_stand : mg "shows_stand" = some (.ref (He.ga K "shows_stand"))
  F_shows_stand : FunD K "shows_stand" "shows_stand" (defArgs (top 47)) (defBody (top 47)) (defScope (top 47)) [] [] (He.ga K "shows_stand") (fdOf K (He.ga K "shows_stand"))
  f_accepts : mg "accepts" = some (.ref (He.ga K "accepts"))
  F_accepts : FunD K "accepts" "accepts" (defArgs (top 49)) (defBody (top 49)) (defScope (top 49)) [] [] (He.ga K "accepts") (fdOf K (He.ga K "accepts"))
  f_law_judge : mg "_law_judge" = some (.ref (He.ga K "_law_judge"))
  F_law_judge : FunD K "_law_judge" "_law_judge" (defArgs (top 100)) (defBody (top 100)) (defScope (top 100)) [] [] (He.ga K "_law_judge") (fdOf K (He.ga K "_law_judge"))
  f_number_in : mg "number_in" = some (.ref (He.ga K "number_in"))
  F_number_in : FunD K "number_in" "number_in" (defArgs (top 64)) (defBody (top 64)) (defScope (top 64)) [] [] (He.ga K "number_in") (fdOf K (He.ga K "number_in"))
  f_line_in : mg "line_in" = some (.ref (He.ga K "line_in"))
  F_line_in : FunD K "line_in" "line_in" (defArgs (top 66)) (defBody (top 66)) (defScope (top 66)) [] [] (He.ga K "line_in") (fdOf K (He.ga K "line_in"))
  f_lines_in : mg "lines_in" = some (.ref (He.ga K "lines_in"))
  F_lines_in : FunD K "lines_in" "lines_in" (defArgs (top 67)) (defBody (top 67)) (defScope (top 67)) [] [] (He.ga K "lines_in") (fdOf K (He.ga K "lines_in"))
  f_board_in : mg "board_in" = some (.ref (He.ga K "board_in"))
  F_board_in : FunD K "board_in" "board_in" (defArgs (top 68)) (defBody (top 68)) (defScope (top 68)) [] [] (He.ga K "board_in") (fdOf K (He.ga K "board_in"))
  F_Board___init__ : FunD K "__init__" "Board.__init__" (defArgs (mth 70 0)) (defBody (mth 70 0)) (defScope (mth 70 0)) [] [] (He.ma K (He.ga K "Board") "__init__") (fdOf K (He.ma K (He.ga K "Board") "__init__"))
  p_Board_size : PropOf K (He.ga K "Board") "size" (pAd K "Board" "size") (gAd K "Board" "size")
  F_Board_size : FunD K "size" "Board.size" (defArgs (mth 70 2)) (defBody (mth 70 2)) (defScope (mth 70 2)) [] [] (gAd K "Board" "size") (fdOf K (gAd K "Board" "size"))
  f_check_board : mg "check_board" = some (.ref (He.ga K "check_board"))
  F_check_board : FunD K "check_board" "check_board" (defArgs (top 71)) (defBody (top 71)) (defScope (top 71)) [] [] (He.ga K "check_board") (fdOf K (He.ga K "check_board"))
  f_is_integer : mg "is_integer" = some (.ref (He.ga K "is_integer"))
  F_is_integer : FunD K "is_integer" "is_integer" (defArgs (top 62)) (defBody (top 62)) (defScope (top 62)) [] [] (He.ga K "is_integer") (fdOf K (He.ga K "is_integer"))
  f_is_between : mg "is_between" = some (.ref (He.ga K "is_between"))
  F_is_between : FunD K "is_between" "is_between" (defArgs (top 63)) (defBody (top 63)) (defScope (top 63)) [] [] (He.ga K "is_between") (fdOf K (He.ga K "is_between"))
  f_check_cells : mg "check_cells" = some (.ref (He.ga K "check_cells"))
  F_check_cells : FunD K "check_cells" "check_cells" (defArgs (top 73)) (defBody (top 73)) (defScope (top 73)) [] [] (He.ga K "check_cells") (fdOf K (He.ga K "check_cells"))
  F_Stand___init__ : FunD K "__init__" "Stand.__init__" (defArgs (mth 75 0)) (defBody (mth 75 0)) (defScope (mth 75 0)) [] [] (He.ma K (He.ga K "Stand") "__init__") (fdOf K (He.ma K (He.ga K "Stand") "__init__"))
  f_law_text : mg "_law_text" = some (.ref (He.ga K "_law_text"))
  F_law_text : FunD K "_law_text" "_law_text" (defArgs (top 96)) (defBody (top 96)) (defScope (top 96)) [] [] (He.ga K "_law_text") (fdOf K (He.ga K "_law_text"))
  f_law_made : mg "_law_made" = some (.ref (He.ga K "_law_made"))
  F_law_made : FunD K "_law_made" "_law_made" (defArgs (top 98)) (defBody (top 98)) (defScope (top 98)) [] [] (He.ga K "_law_made") (fdOf K (He.ga K "_law_made"))
  f_law_said : mg "_law_said" = some (.ref (He.ga K "_law_said"))
  F_law_said : FunD K "_law_said" "_law_said" (defArgs (top 97)) (defBody (top 97)) (defScope (top 97)) [] [] (He.ga K "_law_said") (fdOf K (He.ga K "_law_said"))
  p_Stand_free : PropOf K (He.ga K "Stand") "free" (pAd K "Stand" "free") (gAd K "Stand" "free")
  F_Stand_free : FunD K "free" "Stand.free" (defArgs (mth 75 4)) (defBody (mth 75 4)) (defScope (mth 75 4)) [] [] (gAd K "Stand" "free") (fdOf K (gAd K "Stand" "free"))
  f_is_live : mg "is_live" = some (.ref (He.ga K "is_live"))
  F_is_live : FunD K "is_live" "is_live" (defArgs (top 76)) (defBody (top 76)) (defScope (top 76)) [] [] (He.ga K "is_live") (fdOf K (He.ga K "is_live"))
  f_rest_of : mg "rest_of" = some (.ref (He.ga K "rest_of"))
  F_rest_of : FunD K "rest_of" "rest_of" (defArgs (top 77)) (defBody (top 77)) (defScope (top 77)) [] [] (He.ga K "rest_of") (fdOf K (He.ga K "rest_of"))
  p_Stand_rests : PropOf K (He.ga K "Stand") "rests" (pAd K "Stand" "rests") (gAd K "Stand" "rests")
  F_Stand_rests : FunD K "rests" "Stand.rests" (defArgs (mth 75 6)) (defBody (mth 75 6)) (defScope (mth 75 6)) [] [] (gAd K "Stand" "rests") (fdOf K (gAd K "Stand" "rests"))
  f_check_many : mg "check_many" = some (.ref (He.ga K "check_many"))
  F_check_many : FunD K "check_many" "check_many" (defArgs (top 83)) (defBody (top 83)) (defScope (top 83)) [] [] (He.ga K "check_many") (fdOf K (He.ga K "check_many"))
  f_check_stand : mg "check_stand" = some (.ref (He.ga K "check_stand"))
  F_check_stand : FunD K "check_stand" "check_stand" (defArgs (top 79)) (defBody (top 79)) (defScope (top 79)) [] [] (He.ga K "check_stand") (fdOf K (He.ga K "check_stand"))
  f_divisor : mg "divisor" = some (.ref (He.ga K "divisor"))
  F_divisor : FunD K "divisor" "divisor" (defArgs (top 84)) (defBody (top 84)) (defScope (top 84)) [] [] (He.ga K "divisor") (fdOf K (He.ga K "divisor"))
  f_reduced : mg "reduced" = some (.ref (He.ga K "reduced"))
  F_reduced : FunD K "reduced" "reduced" (defArgs (top 88)) (defBody (top 88)) (defScope (top 88)) [] [] (He.ga K "reduced") (fdOf K (He.ga K "reduced"))
  f_power : mg "power_weights" = some (.ref (He.ga K "power_weights"))
  F_power : FunD K "power" "power" (defArgs (top 85)) (defBody (top 85)) (defScope (top 85)) [] [] (He.ga K "power_weights") (fdOf K (He.ga K "power_weights"))
  f_weight_of : mg "weight_of" = some (.ref (He.ga K "weight_of"))
  F_weight_of : FunD K "weight_of" "weight_of" (defArgs (top 87)) (defBody (top 87)) (defScope (top 87)) [] [] (He.ga K "weight_of") (fdOf K (He.ga K "weight_of"))
  f_weight : mg "weight" = some (.ref (He.ga K "weight"))
  F_weight : FunD K "weight" "weight" (defArgs (top 89)) (defBody (top 89)) (defScope (top 89)) [] [] (He.ga K "weight") (fdOf K (He.ga K "weight"))
  f_law_right : mg "_law_right" = some (.ref (He.ga K "_law_right"))
  F_law_right : FunD K "_law_right" "_law_right" (defArgs (top 103)) (defBody (top 103)) (defScope (top 103)) [] [] (He.ga K "_law_right") (fdOf K (He.ga K "_law_right"))
  f_law : mg "law" = some (.ref (He.ga K "law"))
  F_law : FunD K "law" "law" (defArgs (top 104)) (defBody (top 104)) (defScope (top 104)) [] [] (He.ga K "law") (fdOf K (He.ga K "law"))
  f_Board : mg "Board" = some (.ref (He.ga K "Board"))
  k_Board : CF K (He.ga K "Board")
  m_Board : Mk K (He.ga K "Board") (He.ma K (He.ga K "Board") "__init__")
  f_Stand : mg "Stand" = some (.ref (He.ga K "Stand"))
  k_Stand : CF K (He.ga K "Stand")
  m_Stand : Mk K (He.ga K "Stand") (He.ma K (He.ga K "Stand") "__init__")
  f_Sheet : mg "Sheet" = some (.ref (He.ga K "Sheet"))
  k_Sheet : CF K (He.ga K "Sheet")
  m_Sheet : Mk K (He.ga K "Sheet") (He.ma K (He.ga K "Sheet") "__init__")
  ok : WdOk (wd w K)
  n_Board_many : NoAttr K (He.ga K "Board") "many"
  n_Board_rows : NoAttr K (He.ga K "Board") "rows"
  n_Board_written : NoAttr K (He.ga K "Board") "written"
  n_Sheet_left : NoAttr K (He.ga K "Sheet") "left"
  n_Sheet_space : NoAttr K (He.ga K "Sheet") "space"
  n_Stand_base : NoAttr K (He.ga K "Stand") "base"
  n_Stand_mine : NoAttr K (He.ga K "Stand") "mine"
  n_Stand_others : NoAttr K (He.ga K "Stand") "others"
  h_Sheet_lots : Meth K (He.ga K "Sheet") "lots" (He.ma K (He.ga K "Sheet") "lots")
  i_Board : ∀ x u, x.fit = true → x.v (wd w K) u → PySem.W.kitOne K u (.ref (He.ga K "Board")) = some (isiB x (.o 0))
  i_Stand : ∀ x u, x.fit = true → x.v (wd w K) u → PySem.W.kitOne K u (.ref (He.ga K "Stand")) = some (isiB x (.o 1))
  i_bool : ∀ x u, x.fit = true → x.v (wd w K) u → PySem.W.kitOne K u (.type "bool") = some (isiB x (.b "bool"))
  i_int : ∀ x u, x.fit = true → x.v (wd w K) u → PySem.W.kitOne K u (.type "int") = some (isiB x (.b "int"))
  i_str : ∀ x u, x.fit = true → x.v (wd w K) u → PySem.W.kitOne K u (.type "str") = some (isiB x (.b "str"))
  i_tuple : ∀ x u, x.fit = true → x.v (wd w K) u → PySem.W.kitOne K u (.type "tuple") = some (isiB x (.b "tuple"))
  c_DIGITS_names : ∃ t, mg "DIGITS_names" = some (.str "0123456789" t)
  c_DIGITS_sheets : ∃ t, mg "DIGITS_sheets" = some (.str "0123456789" t)
  c_MOST_CELLS : ∃ t, mg "MOST_CELLS" = some (.int 30 t)
  c_MOST_LINES : ∃ t, mg "MOST_LINES" = some (.int 30 t)
  c_MOST_MANY : ∃ t, mg "MOST_MANY" = some (.int 9 t)
  c_SIZES : mg "SIZES" = some (.ref (He.ga K "SIZES"))
  d_SIZES : KD (wd w K) w (He.ga K "SIZES") kv_SIZES
section
variable {P : Program} {w : World} {K : PySem.W.Frag} {mg : Str → Option Value} {base : Heap}
theorem sc_law_bag : FnScope ["_law_script", "_law_spot", "_law_cell", "_law_part"] ["_law_script", "_law_spot"] (defScope (top 91)) := ⟨rfl, rfl, rfl, by decide +kernel, rfl, by decide +kernel, by decide +kernel⟩
theorem b_law_bag (g : Gs w K mg) : Binds K (fdOf K (He.ga K "_law_bag")) ["_law_script", "_law_spot"] [] := g.F_law_bag.bindsN fun _ _ _ _ _ _ us hl => match us, hl with | [_, _], _ => rfl
theorem ok_law_bag (g : Gs w K mg) : FnOk P w K mg base CX0 1 (He.ga K "_law_bag") (fdOf K (He.ga K "_law_bag")) ["_law_script", "_law_spot"] (spM (wd w K) m_law_bag) :=
  fnM g.F_law_bag sc_law_bag 4 2 rfl rfl fun cdv A outer s H E hr =>
    (xsCons (xsSet (i := 2) sc_law_bag.nd rfl (.inl rfl) (xIf (xtCmp ot_lt (oLt (room80 hr)) (xVar 1) (xCallB ct_len call_len rfl g.b_len bt_len (xaCons (xVar 0) xaNil))) (xIx rfl (xVar 0) (xVar 1) (fun _ _ => rfl)) (xOp ot_add oAdd (xOp ot_mul oMul xInt (xVar 1)) xInt)))
    (xsCons (xsFor (fun _ _ z => z.elim) rfl (xiSeq rfl (xIf (xtCmp ot_ge (oGe (room80 hr)) (xVar 1) (xCallB ct_len call_len rfl g.b_len bt_len (xaCons (xVar 0) xaNil))) (xSl rfl (xVar 0) xoNo (xoSome xInt)) (xL (xLst xaNil)))) (xgName (i := 3) sc_law_bag.nd rfl (.inl rfl)) (xsOne (xsSet (i := 2) sc_law_bag.nd rfl (.inl rfl) (xOp ot_mod op_mod (xCallTy ct_int oInt rfl g.b_int bt_int (xaCons (xOp ot_add oAdd (xOp ot_mul oMul (xVar 2) xInt) (xVar 3)) xaNil)) xInt))))
    (xsOne (xsRet (xH (xLst (xaCons (xOp ot_mod op_mod (xCallTy ct_int oInt rfl g.b_int bt_int (xaCons (xVar 2) xaNil)) xInt) (xaCons (xIf (xtW (xwOr (xtCmp ot_lt (oLt (room80 hr)) (xVar 2) xInt) (xwOr1 (xtCmp ot_ge (oGe (room80 hr)) (xVar 2) (xOp ot_pow op_pow xInt xInt))))) (xCallB ct_abs call_abs rfl g.b_abs bt_abs (xaCons (xVar 2) xaNil)) xInt) (xaCons xInt xaNil)))))))))
theorem sc_law_take : FnScope ["_law_bag_here", "_law_top", "_law_seed", "_law_high", "_law_digit"] ["_law_bag_here", "_law_top"] (defScope (top 92)) := ⟨rfl, rfl, rfl, by decide +kernel, rfl, by decide +kernel, by decide +kernel⟩
theorem b_law_take (g : Gs w K mg) : Binds K (fdOf K (He.ga K "_law_take")) ["_law_bag_here", "_law_top"] [] := g.F_law_take.bindsN fun _ _ _ _ _ _ us hl => match us, hl with | [_, _], _ => rfl
theorem ok_law_take (g : Gs w K mg) : FnOk P w K mg base CX0 1 (He.ga K "_law_take") (fdOf K (He.ga K "_law_take")) ["_law_bag_here", "_law_top"] (spM (wd w K) m_law_take) :=
  fnM g.F_law_take sc_law_take 5 2 rfl rfl fun cdv A outer s H E hr =>
    (xsCons (xsAsg (xOp ot_add oAdd (xIx rfl (xVar 0) xInt (fun _ _ => rfl)) xInt) (xgSub st_setL (xVar 0) xInt set_list))
    (xsCons (xsSet (i := 2) sc_law_take.nd rfl (.inl rfl) (xCallTy ct_int oInt rfl g.b_int bt_int (xaCons (xIx rfl (xVar 0) xInt (fun _ _ => rfl)) xaNil)))
    (xsCons (xsSet (i := 3) sc_law_take.nd rfl (.inl rfl) (xOp ot_fdv op_fdiv (xVar 2) xInt))
    (xsCons (xsAsg (xOp ot_mod op_mod (xCallTy ct_int oInt rfl g.b_int bt_int (xaCons (xOp ot_add oAdd (xOp ot_add oAdd (xOp ot_add oAdd (xOp ot_mul oMul (xVar 2) xInt) (xOp ot_mul oMul (xVar 3) (xVar 3))) (xOp ot_mul oMul xInt (xIx rfl (xVar 0) xInt (fun _ _ => rfl)))) xInt) xaNil)) xInt) (xgSub st_setL (xVar 0) xInt set_list))
    (xsCons (xsIf (xtCmp ot_gt (oGt (room80 hr)) (xIx rfl (xVar 0) xInt (fun _ _ => rfl)) xInt) (xsCons (xsAsg (xCallB ct_divmod call_divmodW rfl g.b_divmod bt_divmod (xaCons (xIx rfl (xVar 0) xInt (fun _ _ => rfl)) (xaCons (xVar 1) xaNil))) (xgTup (n := 2) rfl rfl (xgsCons (xgSub st_setL (xVar 0) xInt set_list) (xgsCons (xgName (i := 4) sc_law_take.nd rfl (.inl rfl)) xgsNil))))
    (xsOne (xsRet (xVar 4)))) xsNil)
    (xsOne (xsRet (xOp ot_mod op_mod (xCallTy ct_int oInt rfl g.b_int bt_int (xaCons (xOp ot_fdv op_fdiv (xIx rfl (xVar 0) xInt (fun _ _ => rfl)) xInt) xaNil)) (xVar 1)))))))))
theorem sc_law_of : FnScope ["_law_bag_here", "_law_some_here"] ["_law_bag_here", "_law_some_here"] (defScope (top 93)) := ⟨rfl, rfl, rfl, by decide +kernel, rfl, by decide +kernel, by decide +kernel⟩
theorem b_law_of (g : Gs w K mg) : Binds K (fdOf K (He.ga K "_law_of")) ["_law_bag_here", "_law_some_here"] [] := g.F_law_of.bindsN fun _ _ _ _ _ _ us hl => match us, hl with | [_, _], _ => rfl
theorem ok_law_of (g : Gs w K mg) : FnOk P w K mg base CX0 2 (He.ga K "_law_of") (fdOf K (He.ga K "_law_of")) ["_law_bag_here", "_law_some_here"] (spM (wd w K) m_law_of) :=
  fnM g.F_law_of sc_law_of 2 2 rfl rfl fun cdv A outer s H E hr =>
    (xsOne (xsRet (xIx rfl (xVar 1) (xCall (ok_law_take g) (hr.mono (by decide)) rfl g.f_law_take g.F_law_take.kp (b_law_take g) (xaCons (xVar 0) (xaCons (xCallB ct_len call_len rfl g.b_len bt_len (xaCons (xVar 1) xaNil)) xaNil))) (fun _ _ => rfl))))
theorem sc_law_rows : FnScope ["_law_bag_here", "_law_size", "_law_most", "_law_found", "_law_turn", "_law_wide", "_law_k"] ["_law_bag_here", "_law_size", "_law_most"] (defScope (top 94)) := ⟨rfl, rfl, rfl, by decide +kernel, rfl, by decide +kernel, by decide +kernel⟩
theorem b_law_rows (g : Gs w K mg) : Binds K (fdOf K (He.ga K "_law_rows")) ["_law_bag_here", "_law_size", "_law_most"] [] := g.F_law_rows.bindsN fun _ _ _ _ _ _ us hl => match us, hl with | [_, _, _], _ => rfl
theorem ok_law_rows (g : Gs w K mg) : FnOk P w K mg base CX0 3 (He.ga K "_law_rows") (fdOf K (He.ga K "_law_rows")) ["_law_bag_here", "_law_size", "_law_most"] (spM (wd w K) m_law_rows) :=
  fnM g.F_law_rows sc_law_rows 7 3 rfl rfl fun cdv A outer s H E hr =>
    (xsCons (xsSet (i := 3) sc_law_rows.nd rfl (.inl rfl) xDNewT)
    (xsCons (xsFor (fun _ _ z => z.elim) rfl (xiRange1 rfl g.b_range (xaCons (xCall (ok_law_take g) (hr.mono (by decide)) rfl g.f_law_take g.F_law_take.kp (b_law_take g) (xaCons (xVar 0) (xaCons (xOp ot_add oAdd (xVar 2) xInt) xaNil))) xaNil)) (xgName (i := 4) sc_law_rows.nd rfl (.inl rfl)) (xsCons (xsSet (i := 5) sc_law_rows.nd rfl (.inl rfl) (xCall (ok_law_of g) (hr.mono (by decide)) rfl g.f_law_of g.F_law_of.kp (b_law_of g) (xaCons (xVar 0) (xaCons (xL (xLst (xaCons xInt (xaCons xInt (xaCons xInt (xaCons xInt (xaCons xInt (xaCons xInt (xaCons xInt (xaCons xInt xaNil)))))))))) xaNil))))
    (xsOne (xsAsg xBl (xgPutT (room1 hr) (xVar 3) (xTupF rfl rfl g.b_tuple call_tuple_of (xaCons (xL (xSortSetI (k := 0) rfl rfl rfl g.b_sorted rfl g.b_set (xL (xLc (own := [("_law_k", 6)]) rfl sc_law_rows.nd (xiRange1 rfl g.b_range (xaCons (xVar 5) xaNil)) (blk_of rfl rfl) (fun _ _ _ _ _ => (wgName (i := 6) (by decide) sc_law_rows.nd rfl (.inl rfl))) (fun _ _ _ _ _ => xtsNil) (fun _ _ _ _ _ => (xCall (ok_law_take g) (hr.mono (by decide)) rfl g.f_law_take g.F_law_take.kp (b_law_take g) (xaCons (xVar 0) (xaCons (xVar 1) xaNil)))))))) xaNil)))))))
    (xsOne (xsRet (xCallTy ct_tuple call_tuple_of rfl g.b_tuple bt_tuple (xaCons (xL (xSortedDT rfl hr rfl g.b_sorted (xaCons (xVar 3) xaNil))) xaNil))))))
theorem sc_law_frame : FnScope ["_law_bag_here", "_law_size", "_law_most", "_law_taken", "_law_rows_here", "_law_spots", "_law_mine", "_law_its", "_law_turn", "_law_spot"] ["_law_bag_here", "_law_size", "_law_most", "_law_taken"] (defScope (top 95)) := ⟨rfl, rfl, rfl, by decide +kernel, rfl, by decide +kernel, by decide +kernel⟩
theorem b_law_frame (g : Gs w K mg) : Binds K (fdOf K (He.ga K "_law_frame")) ["_law_bag_here", "_law_size", "_law_most", "_law_taken"] [] := g.F_law_frame.bindsN fun _ _ _ _ _ _ us hl => match us, hl with | [_, _, _, _], _ => rfl
theorem ok_law_frame (g : Gs w K mg) : FnOk P w K mg base CX0 4 (He.ga K "_law_frame") (fdOf K (He.ga K "_law_frame")) ["_law_bag_here", "_law_size", "_law_most", "_law_taken"] (spM (wd w K) m_law_frame) :=
  fnM g.F_law_frame sc_law_frame 10 4 rfl rfl fun cdv A outer s H E hr =>
    (xsCons (xsAsg (xTup (xaCons (xCall (ok_law_rows g) (hr.mono (by decide)) rfl g.f_law_rows g.F_law_rows.kp (b_law_rows g) (xaCons (xVar 0) (xaCons (xVar 1) (xaCons (xVar 2) xaNil)))) (xaCons (xH (xListRg1 rfl rfl g.b_list rfl g.b_range (xVar 1))) (xaCons (xH (xLst xaNil)) (xaCons (xH (xLst xaNil)) xaNil))))) (xgTup (n := 4) rfl rfl (xgsCons (xgName (i := 4) sc_law_frame.nd rfl (.inl rfl)) (xgsCons (xgName (i := 5) sc_law_frame.nd rfl (.inl rfl)) (xgsCons (xgName (i := 6) sc_law_frame.nd rfl (.inl rfl)) (xgsCons (xgName (i := 7) sc_law_frame.nd rfl (.inl rfl)) xgsNil))))))
    (xsCons (xsFor (fun _ _ z => z.elim) rfl (xiRange1 rfl g.b_range (xaCons (xCall (ok_law_take g) (hr.mono (by decide)) rfl g.f_law_take g.F_law_take.kp (b_law_take g) (xaCons (xVar 0) (xaCons (xOp ot_add oAdd (xVar 3) xInt) xaNil))) xaNil)) (xgName (i := 8) sc_law_frame.nd rfl (.inl rfl)) (xsOne (xsIf (xtCmp ot_ne (op_neP (room80 hr)) (xVar 5) (xL (xLst xaNil))) (xsCons (xsSet (i := 9) sc_law_frame.nd rfl (.inl rfl) (xMt mt_popAt' rfl F.plainAttrs_list F.slot_list_pop F.type_list_pop mt_popAt (xVar 5) (xaCons (xCall (ok_law_take g) (hr.mono (by decide)) rfl g.f_law_take g.F_law_take.kp (b_law_take g) (xaCons (xVar 0) (xaCons (xCallB ct_len call_len rfl g.b_len bt_len (xaCons (xVar 5) xaNil)) xaNil))) xaNil)))
    (xsOne (xsIf (xtCmp ot_eq (op_eqP (room80 hr)) (xCall (ok_law_take g) (hr.mono (by decide)) rfl g.f_law_take g.F_law_take.kp (b_law_take g) (xaCons (xVar 0) (xaCons xInt xaNil))) xInt) (xsOne (xsExpr (xMt mt_append' rfl F.plainAttrs_list F.slot_list_append F.type_list_append mt_append (xVar 6) (xaCons (xVar 9) xaNil)))) (xsOne (xsExpr (xMt mt_append' rfl F.plainAttrs_list F.slot_list_append F.type_list_append mt_append (xVar 7) (xaCons (xVar 9) xaNil))))))) xsNil)))
    (xsOne (xsRet (xTup (xaCons (xVar 1) (xaCons (xVar 4) (xaCons (xCallTy ct_tuple call_tuple_of rfl g.b_tuple bt_tuple (xaCons (xL (xSorted rfl hr rfl g.b_sorted (xaCons (xVar 6) xaNil))) xaNil)) (xaCons (xCallTy ct_tuple call_tuple_of rfl g.b_tuple bt_tuple (xaCons (xL (xSorted rfl hr rfl g.b_sorted (xaCons (xVar 7) xaNil))) xaNil)) xaNil)))))))))
theorem sc_law_common : FnScope ["_law_a", "_law_b", "_law_turn"] ["_law_a", "_law_b"] (defScope (top 101)) := ⟨rfl, rfl, rfl, by decide +kernel, rfl, by decide +kernel, by decide +kernel⟩
theorem b_law_common (g : Gs w K mg) : Binds K (fdOf K (He.ga K "_law_common")) ["_law_a", "_law_b"] [] := g.F_law_common.bindsN fun _ _ _ _ _ _ us hl => match us, hl with | [_, _], _ => rfl
theorem ok_law_common (g : Gs w K mg) : FnOk P w K mg base CX0 1 (He.ga K "_law_common") (fdOf K (He.ga K "_law_common")) ["_law_a", "_law_b"] (spM (wd w K) m_law_common) :=
  fnM g.F_law_common sc_law_common 3 2 rfl rfl fun cdv A outer s H E hr =>
    (xsCons (xsFor (fun _ _ z => z.elim) rfl (xiRange1 rfl g.b_range (xaCons xInt xaNil)) (xgName (i := 2) sc_law_common.nd rfl (.inl rfl)) (xsCons (xsIf (xtCmp ot_eq (op_eqP (room80 hr)) (xVar 1) xInt) (xsOne (xsRet (xVar 0))) xsNil)
    (xsOne (xsPar (i := 0) (j := 1) rfl sc_law_common.nd rfl rfl (by decide) rfl rfl (xaCons (xVar 1) (xaCons (xOp ot_mod op_mod (xCallTy ct_int oInt rfl g.b_int bt_int (xaCons (xVar 0) xaNil)) (xVar 1)) xaNil)) rfl))))
    (xsOne (xsRet (xVar 0))))
theorem sc_law_lots : FnScope ["_law_frame_here", "_law_found", "_law_k", "_law_spot"] ["_law_frame_here"] (defScope (top 99)) := ⟨rfl, rfl, rfl, by decide +kernel, rfl, by decide +kernel, by decide +kernel⟩
theorem b_law_lots (g : Gs w K mg) : Binds K (fdOf K (He.ga K "_law_lots")) ["_law_frame_here"] [] := g.F_law_lots.bindsN fun _ _ _ _ _ _ us hl => match us, hl with | [_], _ => rfl
theorem ok_law_lots (g : Gs w K mg) : FnOk P w K mg base CX0 1 (He.ga K "_law_lots") (fdOf K (He.ga K "_law_lots")) ["_law_frame_here"] (spM (wd w K) m_law_lots) :=
  fnM g.F_law_lots sc_law_lots 4 1 rfl rfl fun cdv A outer s H E hr =>
    (xsCons (xsSet (i := 1) sc_law_lots.nd rfl (.inl rfl) (xH (xLst xaNil)))
    (xsCons (xsFor (fun _ _ z => z.elim) rfl (xiRange1 rfl g.b_range (xaCons (xCallB ct_len call_len rfl g.b_len bt_len (xaCons (xIx rfl (xVar 0) xInt (fun _ _ => rfl)) xaNil)) xaNil)) (xgName (i := 2) sc_law_lots.nd rfl (.inl rfl)) (xsOne (xsIf (xtCmp ot_eq (op_eqP (room80 hr)) (xL (xLc (own := [("_law_spot", 3)]) rfl sc_law_lots.nd (xiSeq rfl (xIx rfl (xIx rfl (xVar 0) xInt (fun _ _ => rfl)) (xVar 2) (fun _ _ => rfl))) (blk_of rfl rfl) (fun _ _ _ _ _ => (wgName (i := 3) (by decide) sc_law_lots.nd rfl (.inl rfl))) (fun _ _ _ _ _ => (xtsOne (xtCmp ot_inT (oIn (room80 hr)) (xVar 3) (xIx rfl (xVar 0) xInt (fun _ _ => rfl))))) (fun _ _ _ _ _ => (xVar 3)))) (xL (xLst xaNil))) (xsOne (xsExpr (xMt mt_append' rfl F.plainAttrs_list F.slot_list_append F.type_list_append mt_append (xVar 1) (xaCons (xTup (xaCons (xVar 2) (xaCons (xCallTy ct_tuple call_tuple_of rfl g.b_tuple bt_tuple (xaCons (xL (xLc (own := [("_law_spot", 3)]) rfl sc_law_lots.nd (xiSeq rfl (xIx rfl (xIx rfl (xVar 0) xInt (fun _ _ => rfl)) (xVar 2) (fun _ _ => rfl))) (blk_of rfl rfl) (fun _ _ _ _ _ => (wgName (i := 3) (by decide) sc_law_lots.nd rfl (.inl rfl))) (fun _ _ _ _ _ => (xtsOne (xtCmp ot_ninT (oNin (room80 hr)) (xVar 3) (xIx rfl (xVar 0) xInt (fun _ _ => rfl))))) (fun _ _ _ _ _ => (xVar 3)))) xaNil)) xaNil))) xaNil)))) xsNil)))
    (xsOne (xsRet (xVar 1)))))
theorem sc_law_heavy : FnScope ["_law_frame_here", "_law_n", "_law_upper", "_law_lower", "_law_k", "_law_rest", "_law_part", "_law_spot", "_law_by"] ["_law_frame_here", "_law_n"] (defScope (top 102)) := ⟨rfl, rfl, rfl, by decide +kernel, rfl, by decide +kernel, by decide +kernel⟩
theorem b_law_heavy (g : Gs w K mg) : Binds K (fdOf K (He.ga K "_law_heavy")) ["_law_frame_here", "_law_n"] [] := g.F_law_heavy.bindsN fun _ _ _ _ _ _ us hl => match us, hl with | [_, _], _ => rfl
theorem ok_law_heavy (g : Gs w K mg) : FnOk P w K mg base CX0 2 (He.ga K "_law_heavy") (fdOf K (He.ga K "_law_heavy")) ["_law_frame_here", "_law_n"] (spM (wd w K) m_law_heavy) :=
  fnCut (fnM g.F_law_heavy sc_law_heavy 9 2 rfl rfl fun cdv A outer s H E hr =>
    (xsCons (xsAsg (xTup (xaCons xInt (xaCons xInt xaNil))) (xgTup (n := 2) rfl rfl (xgsCons (xgName (i := 2) sc_law_heavy.nd rfl (.inl rfl)) (xgsCons (xgName (i := 3) sc_law_heavy.nd rfl (.inl rfl)) xgsNil))))
    (xsCons (xsFor (fun _ _ z => z.elim) rfl (xiSeq rfl (xCall (ok_law_lots g) (hr.mono (by decide)) rfl g.f_law_lots g.F_law_lots.kp (b_law_lots g) (xaCons (xVar 0) xaNil))) (xgTup (n := 2) rfl rfl (xgsCons (xgName (i := 4) sc_law_heavy.nd rfl (.inl rfl)) (xgsCons (xgName (i := 5) sc_law_heavy.nd rfl (.inl rfl)) xgsNil))) (xsCons (xsSet (i := 6) sc_law_heavy.nd rfl (.inl rfl) xInt)
    (xsCons (xsFor (fun _ _ z => z.elim) rfl (xiSeq rfl (xVar 5)) (xgName (i := 7) sc_law_heavy.nd rfl (.inl rfl)) (xsOne (xsSet (i := 6) sc_law_heavy.nd rfl (.inl rfl) (xOp ot_mul oMul (xVar 6) (xOp ot_add oAdd (xVar 1) xInt)))))
    (xsCons (xsPar (i := 2) (j := 3) rfl sc_law_heavy.nd rfl rfl (by decide) rfl rfl (xaCons (xOp ot_add oAdd (xOp ot_mul oMul (xVar 2) (xVar 6)) (xVar 3)) (xaCons (xOp ot_mul oMul (xVar 3) (xVar 6)) xaNil)) rfl)
    (xsCons (xsSet (i := 8) sc_law_heavy.nd rfl (.inl rfl) (xCall (ok_law_common g) (hr.mono (by decide)) rfl g.f_law_common g.F_law_common.kp (b_law_common g) (xaCons (xVar 2) (xaCons (xVar 3) xaNil))))
    (xsOne (xsPar (i := 2) (j := 3) rfl sc_law_heavy.nd rfl rfl (by decide) rfl rfl (xaCons (xOp ot_fdvW op_fdivW (xVar 2) (xVar 8)) (xaCons (xOp ot_fdvW op_fdivW (xVar 3) (xVar 8)) xaNil)) rfl)))))))
    (xsOne (xsRet (xTup (xaCons (xVar 2) (xaCons (xVar 3) xaNil))))))))
theorem sc_Sheet_lots : FnScope ["self", "place"] ["self"] (defScope (mth 15 1)) := ⟨rfl, rfl, rfl, by decide +kernel, rfl, by decide +kernel, by decide +kernel⟩
theorem b_Sheet_lots (g : Gs w K mg) : Binds K (fdOf K (He.ma K (He.ga K "Sheet") "lots")) ["self"] [] := g.F_Sheet_lots.bindsN fun _ _ _ _ _ _ us hl => match us, hl with | [_], _ => rfl
theorem ok_Sheet_lots (g : Gs w K mg) : FnOk P w K mg base CX0 1 (He.ma K (He.ga K "Sheet") "lots") (fdOf K (He.ma K (He.ga K "Sheet") "lots")) ["self"] (spM (wd w K) m_Sheet_lots) :=
  fnM g.F_Sheet_lots sc_Sheet_lots 2 1 rfl rfl fun cdv A outer s H E hr =>
    (xsOne (xsRet (xL (xLc (own := [("place", 1)]) rfl sc_Sheet_lots.nd (xiSeq rfl (xL (xSorted rfl hr rfl g.b_sorted (xaCons (xL (xCallTyF ctf_listD (call_list_dK rfl) rfl g.b_list bt_list (xaCons (xFld (c := 10) (i := 1) rfl rfl rfl fn_nd_Sheet g.k_Sheet.cls g.n_Sheet_left (xVar 0)) xaNil))) xaNil)))) (blk_of rfl rfl) (fun _ _ _ _ _ => (wgName (i := 1) (by decide) sc_Sheet_lots.nd rfl (.inl rfl))) (fun _ _ _ _ _ => xtsNil) (fun _ _ _ _ _ => (xDGet (room1 hr) (xFld (c := 10) (i := 1) rfl rfl rfl fn_nd_Sheet g.k_Sheet.cls g.n_Sheet_left (xVar 0)) (xVar 1)))))))
theorem sc_has_divisor : FnScope ["upper", "lower"] ["upper", "lower"] (defScope (top 45)) := ⟨rfl, rfl, rfl, by decide +kernel, rfl, by decide +kernel, by decide +kernel⟩
theorem b_has_divisor (g : Gs w K mg) : Binds K (fdOf K (He.ga K "has_divisor")) ["upper", "lower"] [] := g.F_has_divisor.bindsN fun _ _ _ _ _ _ us hl => match us, hl with | [_, _], _ => rfl
theorem ok_has_divisor (g : Gs w K mg) : FnOk P w K mg base CX0 1 (He.ga K "has_divisor") (fdOf K (He.ga K "has_divisor")) ["upper", "lower"] (spM (wd w K) m_has_divisor) :=
  fnM g.F_has_divisor sc_has_divisor 2 2 rfl rfl fun cdv A outer s H E hr =>
    (xsCons (xsWhile 1000 (fun _ _ z => z.elim) (xtCmp ot_ne (op_neP (room80 hr)) (xVar 1) xInt) (xsOne (xsPar (i := 0) (j := 1) rfl sc_has_divisor.nd rfl rfl (by decide) rfl rfl (xaCons (xVar 1) (xaCons (xOp ot_mod op_mod (xVar 0) (xVar 1)) xaNil)) rfl)))
    (xsOne (xsRet (xCmp ot_ne (op_neP (room80 hr)) (xVar 0) xInt))))
theorem sc_is_whole : FnScope ["value"] ["value"] (defScope (top 7)) := ⟨rfl, rfl, rfl, by decide +kernel, rfl, by decide +kernel, by decide +kernel⟩
theorem b_is_whole (g : Gs w K mg) : Binds K (fdOf K (He.ga K "is_whole")) ["value"] [] := g.F_is_whole.bindsN fun _ _ _ _ _ _ us hl => match us, hl with | [_], _ => rfl
theorem ok_is_whole (g : Gs w K mg) : FnOk P w K mg base CX0 1 (He.ga K "is_whole") (fdOf K (He.ga K "is_whole")) ["value"] (spM (wd w K) m_is_whole) :=
  fnM g.F_is_whole sc_is_whole 1 1 rfl rfl fun cdv A outer s H E hr =>
    (xsOne (xsRet (xAnd (xIsi (y := .b "int") rfl g.ok rfl (.ty _) g.i_int (xVar 0) (pe_bltn rfl g.b_int bt_int rfl) rfl g.b_isinstance) (xOne (xNot (xIsi (y := .b "bool") rfl g.ok rfl (.ty _) g.i_bool (xVar 0) (pe_bltn rfl g.b_bool bt_bool rfl) rfl g.b_isinstance))))))
theorem sc_power_sheets : FnScope ["base", "times", "found", "turn"] ["base", "times"] (defScope (top 8)) := ⟨rfl, rfl, rfl, by decide +kernel, rfl, by decide +kernel, by decide +kernel⟩
theorem b_power_sheets (g : Gs w K mg) : Binds K (fdOf K (He.ga K "power_sheets")) ["base", "times"] [] := g.F_power_sheets.bindsN fun _ _ _ _ _ _ us hl => match us, hl with | [_, _], _ => rfl
theorem ok_power_sheets (g : Gs w K mg) : FnOk P w K mg base CX0 1 (He.ga K "power_sheets") (fdOf K (He.ga K "power_sheets")) ["base", "times"] (spM (wd w K) m_power_sheets) :=
  fnM g.F_power_sheets sc_power_sheets 4 2 rfl rfl fun cdv A outer s H E hr =>
    (xsCons (xsSet (i := 2) sc_power_sheets.nd rfl (.inl rfl) xInt)
    (xsCons (xsFor (fun _ _ z => z.elim) rfl (xiRange1 rfl g.b_range (xaCons (xVar 1) xaNil)) (xgName (i := 3) sc_power_sheets.nd rfl (.inl rfl)) (xsOne (xsSet (i := 2) sc_power_sheets.nd rfl (.inl rfl) (xOp ot_mul oMul (xVar 2) (xVar 0)))))
    (xsOne (xsRet (xVar 2)))))
theorem sc_is_weight : FnScope ["sheet", "many", "upper", "lower", "part", "lots", "base", "most", "lot", "total"] ["sheet", "many", "upper", "lower"] (defScope (top 44)) := ⟨rfl, rfl, rfl, by decide +kernel, rfl, by decide +kernel, by decide +kernel⟩
theorem b_is_weight (g : Gs w K mg) : Binds K (fdOf K (He.ga K "is_weight")) ["sheet", "many", "upper", "lower"] [] := g.F_is_weight.bindsN fun _ _ _ _ _ _ us hl => match us, hl with | [_, _, _, _], _ => rfl
theorem ok_is_weight (g : Gs w K mg) : FnOk P w K mg base CX0 3 (He.ga K "is_weight") (fdOf K (He.ga K "is_weight")) ["sheet", "many", "upper", "lower"] (spM (wd w K) m_is_weight) :=
  fnM g.F_is_weight sc_is_weight 10 4 rfl rfl fun cdv A outer s H E hr =>
    (xsCons (xsIf (xtW (xwOr (xtNot (xtVal (xCallB ct_all (cr_all rfl) rfl g.b_all bt_all (xaCons (xL (xLc (own := [("part", 4)]) rfl sc_is_weight.nd (xiSeq rfl (xTup (xaCons (xVar 1) (xaCons (xVar 2) (xaCons (xVar 3) xaNil))))) (blk_of rfl rfl) (fun _ _ _ _ _ => (wgName (i := 4) (by decide) sc_is_weight.nd rfl (.inl rfl))) (fun _ _ _ _ _ => xtsNil) (fun _ _ _ _ _ => (xCall (ok_is_whole g) (hr.mono (by decide)) rfl g.f_is_whole g.F_is_whole.kp (b_is_whole g) (xaCons (xVar 4) xaNil))))) xaNil)))) (xwOr (xtNot (xtChain ot_le ot_le (oLe (room80 hr)) (oLe (room80 hr)) xInt (xVar 1) (xGInt rfl g.c_MOST_MANY))) (xwOr1 (xtCmp ot_lt (oLt (room80 hr)) (xVar 3) xInt))))) (xsOne (xsRet xBl)) xsNil)
    (xsCons (xsAsg (xTup (xaCons (xMeth0 (c := 10) rfl rfl nm_Sheet_lots g.k_Sheet.cls g.h_Sheet_lots (ok_Sheet_lots g) (hr.mono (by decide)) (b_Sheet_lots g) (xVar 0)) (xaCons (xOp ot_add oAdd (xVar 1) xInt) xaNil))) (xgTup (n := 2) rfl rfl (xgsCons (xgName (i := 5) sc_is_weight.nd rfl (.inl rfl)) (xgsCons (xgName (i := 6) sc_is_weight.nd rfl (.inr rfl)) xgsNil))))
    (xsCons (xsSet (i := 7) sc_is_weight.nd rfl (.inr rfl) (xMaxD rfl rfl hr rfl g.b_max (xaCons (xL (xLc (own := [("lot", 8)]) rfl sc_is_weight.nd (xiSeq rfl (xVar 5)) (blk_of rfl rfl) (fun _ _ _ _ _ => (wgName (i := 8) (by decide) sc_is_weight.nd rfl (.inl rfl))) (fun _ _ _ _ _ => xtsNil) (fun _ _ _ _ _ => (xCallB ct_len call_len rfl g.b_len bt_len (xaCons (xVar 8) xaNil))))) xaNil) xInt))
    (xsCons (xsSet (i := 9) sc_is_weight.nd rfl (.inl rfl) (xCallB ct_sum (cr_sum rfl) rfl g.b_sum bt_sum (xaCons (xL (xLc (own := [("lot", 8)]) rfl sc_is_weight.nd (xiSeq rfl (xVar 5)) (blk_of rfl rfl) (fun _ _ _ _ _ => (wgName (i := 8) (by decide) sc_is_weight.nd rfl (.inl rfl))) (fun _ _ _ _ _ => xtsNil) (fun _ _ _ _ _ => (xCall (ok_power_sheets g) (hr.mono (by decide)) rfl g.f_power_sheets g.F_power_sheets.kp (b_power_sheets g) (xaCons (xVar 6) (xaCons (xOp ot_sub op_sub (xVar 7) (xCallB ct_len call_len rfl g.b_len bt_len (xaCons (xVar 8) xaNil))) xaNil)))))) xaNil)))
    (xsOne (xsRet (xAnd (xCmp ot_eq (op_eqP (room80 hr)) (xOp ot_mul oMul (xVar 2) (xCall (ok_power_sheets g) (hr.mono (by decide)) rfl g.f_power_sheets g.F_power_sheets.kp (b_power_sheets g) (xaCons (xVar 6) (xaCons (xVar 7) xaNil)))) (xOp ot_mul oMul (xVar 9) (xVar 3))) (xOne (xNot (xCall (ok_has_divisor g) (hr.mono (by decide)) rfl g.f_has_divisor g.F_has_divisor.kp (b_has_divisor g) (xaCons (xVar 2) (xaCons (xVar 3) xaNil))))))))))))
theorem sc_Sheet___init__ : FnScope ["self", "size", "lines", "mine", "its", "cell", "place", "line"] ["self", "size", "lines", "mine", "its"] (defScope (mth 15 0)) := ⟨rfl, rfl, rfl, by decide +kernel, rfl, by decide +kernel, by decide +kernel⟩
theorem b_Sheet___init__ (g : Gs w K mg) : Binds K (fdOf K (He.ma K (He.ga K "Sheet") "__init__")) ["self", "size", "lines", "mine", "its"] [] := g.F_Sheet___init__.bindsN fun _ _ _ _ _ _ us hl => match us, hl with | [_, _, _, _, _], _ => rfl
theorem ok_Sheet___init__ (g : Gs w K mg) : FnOk P w K mg base CX0 1 (He.ma K (He.ga K "Sheet") "__init__") (fdOf K (He.ma K (He.ga K "Sheet") "__init__")) ["self", "size", "lines", "mine", "its"] (spM (wd w K) m_Sheet___init__) :=
  fnM g.F_Sheet___init__ sc_Sheet___init__ 8 5 rfl rfl fun cdv A outer s H E hr =>
    (xsCons (xsAsg (xL (xLc (own := [("cell", 5)]) rfl sc_Sheet___init__.nd (xiRange1 rfl g.b_range (xaCons (xVar 1) xaNil)) (blk_of rfl rfl) (fun _ _ _ _ _ => (wgName (i := 5) (by decide) sc_Sheet___init__.nd rfl (.inl rfl))) (fun _ _ _ _ _ => (xtsOne (xtW (xwAnd (xtCmp ot_ninT (oNin (room80 hr)) (xVar 5) (xVar 3)) (xwAnd1 (xtCmp ot_ninT (oNin (room80 hr)) (xVar 5) (xVar 4))))))) (fun _ _ _ _ _ => (xVar 5)))) (xgFld (c := 10) (i := 0) rfl rfl rfl fn_nd_Sheet fn_lt_Sheet g.k_Sheet.cls g.n_Sheet_space (xVar 0)))
    (xsCons (xsAsg xDNew (xgFld (c := 10) (i := 1) rfl rfl rfl fn_nd_Sheet fn_lt_Sheet g.k_Sheet.cls g.n_Sheet_left (xVar 0)))
    (xsOne (xsFor (fun _ _ z => z.elim) rfl (xiEnum rfl rfl g.b_enumerate (xaCons (xVar 2) xaNil)) (xgTup (n := 2) rfl rfl (xgsCons (xgName (i := 6) sc_Sheet___init__.nd rfl (.inl rfl)) (xgsCons (xgName (i := 7) sc_Sheet___init__.nd rfl (.inl rfl)) xgsNil))) (xsOne (xsIf (xtNot (xtVal (xCallB ct_any (cr_any rfl) rfl g.b_any bt_any (xaCons (xL (xLc (own := [("cell", 5)]) rfl sc_Sheet___init__.nd (xiSeq rfl (xVar 7)) (blk_of rfl rfl) (fun _ _ _ _ _ => (wgName (i := 5) (by decide) sc_Sheet___init__.nd rfl (.inl rfl))) (fun _ _ _ _ _ => xtsNil) (fun _ _ _ _ _ => (xCmp ot_inT (oIn (room80 hr)) (xVar 5) (xVar 4))))) xaNil)))) (xsOne (xsAsg (xL (xLc (own := [("cell", 5)]) rfl sc_Sheet___init__.nd (xiSeq rfl (xVar 7)) (blk_of rfl rfl) (fun _ _ _ _ _ => (wgName (i := 5) (by decide) sc_Sheet___init__.nd rfl (.inl rfl))) (fun _ _ _ _ _ => (xtsOne (xtCmp ot_ninT (oNin (room80 hr)) (xVar 5) (xVar 3)))) (fun _ _ _ _ _ => (xVar 5)))) (xgSub st_setD (xFld (c := 10) (i := 1) rfl rfl rfl fn_nd_Sheet g.k_Sheet.cls g.n_Sheet_left (xVar 0)) (xVar 6) (set_dict (room1 hr))))) xsNil))))))
theorem sc_is_rising : FnScope ["values", "early", "late"] ["values"] (defScope (top 12)) := ⟨rfl, rfl, rfl, by decide +kernel, rfl, by decide +kernel, by decide +kernel⟩
theorem b_is_rising (g : Gs w K mg) : Binds K (fdOf K (He.ga K "is_rising")) ["values"] [] := g.F_is_rising.bindsN fun _ _ _ _ _ _ us hl => match us, hl with | [_], _ => rfl
theorem ok_is_rising (g : Gs w K mg) : FnOk P w K mg base CX0 1 (He.ga K "is_rising") (fdOf K (He.ga K "is_rising")) ["values"] (spM (wd w K) m_is_rising) :=
  fnM g.F_is_rising sc_is_rising 3 1 rfl rfl fun cdv A outer s H E hr =>
    (xsOne (xsRet (xCallB ct_all (cr_all rfl) rfl g.b_all bt_all (xaCons (xL (xLc (own := [("early", 1), ("late", 2)]) rfl sc_is_rising.nd (xiZipA rfl rfl g.b_zip (xaCons (xSl rfl (xVar 0) xoNo (xoSome (xNeg xInt))) (xaCons (xSl rfl (xVar 0) (xoSome xInt) xoNo) xaNil))) (blk_of rfl rfl) (fun _ _ _ _ _ => (wgTup (n := 2) rfl rfl (wgsCons (wgName (i := 1) (by decide) sc_is_rising.nd rfl (.inl rfl)) (wgsCons (wgName (i := 2) (by decide) sc_is_rising.nd rfl (.inl rfl)) wgsNil)))) (fun _ _ _ _ _ => xtsNil) (fun _ _ _ _ _ => (xCmp ot_lt (oLt (room80 hr)) (xVar 1) (xVar 2))))) xaNil))))
theorem sc_are_cells : FnScope ["value", "size", "cell"] ["value", "size"] (defScope (top 14)) := ⟨rfl, rfl, rfl, by decide +kernel, rfl, by decide +kernel, by decide +kernel⟩
theorem b_are_cells (g : Gs w K mg) : Binds K (fdOf K (He.ga K "are_cells")) ["value", "size"] [] := g.F_are_cells.bindsN fun _ _ _ _ _ _ us hl => match us, hl with | [_, _], _ => rfl
theorem ok_are_cells (g : Gs w K mg) : FnOk P w K mg base CX0 2 (He.ga K "are_cells") (fdOf K (He.ga K "are_cells")) ["value", "size"] (spM (wd w K) m_are_cells) :=
  fnM g.F_are_cells sc_are_cells 3 2 rfl rfl fun cdv A outer s H E hr =>
    (xsCons (xsIf (xtW (xwOr (xtNot (xtVal (xIsi (y := .b "tuple") rfl g.ok rfl (.ty _) g.i_tuple (xVar 0) (pe_bltn rfl g.b_tuple bt_tuple rfl) rfl g.b_isinstance))) (xwOr1 (xtNot (xtVal (xCallB ct_all (cr_all rfl) rfl g.b_all bt_all (xaCons (xL (xLc (own := [("cell", 2)]) rfl sc_are_cells.nd (xiSeq rfl (xVar 0)) (blk_of rfl rfl) (fun _ _ _ _ _ => (wgName (i := 2) (by decide) sc_are_cells.nd rfl (.inl rfl))) (fun _ _ _ _ _ => xtsNil) (fun _ _ _ _ _ => (xAnd (xCall (ok_is_whole g) (hr.mono (by decide)) rfl g.f_is_whole g.F_is_whole.kp (b_is_whole g) (xaCons (xVar 2) xaNil)) (xOne (xChain ot_le ot_lt (oLe (room80 hr)) (oLt (room80 hr)) xInt (xVar 2) (xVar 1))))))) xaNil))))))) (xsOne (xsRet xBl)) xsNil)
    (xsOne (xsRet (xCall (ok_is_rising g) (hr.mono (by decide)) rfl g.f_is_rising g.F_is_rising.kp (b_is_rising g) (xaCons (xVar 0) xaNil)))))
theorem sc_number_told : FnScope ["word", "sign"] ["word"] (defScope (top 10)) := ⟨rfl, rfl, rfl, by decide +kernel, rfl, by decide +kernel, by decide +kernel⟩
theorem b_number_told (g : Gs w K mg) : Binds K (fdOf K (He.ga K "number_told")) ["word"] [] := g.F_number_told.bindsN fun _ _ _ _ _ _ us hl => match us, hl with | [_], _ => rfl
theorem ok_number_told (g : Gs w K mg) : FnOk P w K mg base CX0 1 (He.ga K "number_told") (fdOf K (He.ga K "number_told")) ["word"] (spM (wd w K) m_number_told) :=
  fnM g.F_number_told sc_number_told 2 1 rfl rfl fun cdv A outer s H E hr =>
    (xsCons (xsIf (xtW (xwOr (xtCmp ot_eq (op_eqP (room80 hr)) (xVar 0) xStr) (xwOr (xtCmp ot_gt (oGt (room80 hr)) (xCallB ct_len call_len rfl g.b_len bt_len (xaCons (xVar 0) xaNil)) xInt) (xwOr1 (xtNot (xtVal (xCallB ct_all (cr_all rfl) rfl g.b_all bt_all (xaCons (xL (xLc (own := [("sign", 1)]) rfl sc_number_told.nd (xiSeq rfl (xVar 0)) (blk_of rfl rfl) (fun _ _ _ _ _ => (wgName (i := 1) (by decide) sc_number_told.nd rfl (.inl rfl))) (fun _ _ _ _ _ => xtsNil) (fun _ _ _ _ _ => (xCmp ot_inT (oIn (room80 hr)) (xVar 1) (xGStr rfl g.c_DIGITS_sheets))))) xaNil)))))))) (xsOne (xsRet xNon)) xsNil)
    (xsOne (xsRet (xIf (xtW (xwOr (xtCmp ot_ne (op_neP (room80 hr)) (xIx rfl (xVar 0) xInt (fun _ _ => rfl)) xStr) (xwOr1 (xtCmp ot_eq (op_eqP (room80 hr)) (xVar 0) xStr)))) (xCallTy ct_int oInt rfl g.b_int bt_int (xaCons (xVar 0) xaNil)) xNon))))
theorem sc_line_told : FnScope ["part", "size", "line", "word", "cell"] ["part", "size"] (defScope (top 11)) := ⟨rfl, rfl, rfl, by decide +kernel, rfl, by decide +kernel, by decide +kernel⟩
theorem b_line_told (g : Gs w K mg) : Binds K (fdOf K (He.ga K "line_told")) ["part", "size"] [] := g.F_line_told.bindsN fun _ _ _ _ _ _ us hl => match us, hl with | [_, _], _ => rfl
theorem ok_line_told (g : Gs w K mg) : FnOk P w K mg base CX0 2 (He.ga K "line_told") (fdOf K (He.ga K "line_told")) ["part", "size"] (spM (wd w K) m_line_told) :=
  fnM g.F_line_told sc_line_told 5 2 rfl rfl fun cdv A outer s H E hr =>
    (xsCons (xsIf (xtCmp ot_ne (op_neP (room80 hr)) (xSl rfl (xVar 0) xoNo (xoSome xInt)) xStr) (xsOne (xsRet xNon)) xsNil)
    (xsCons (xsSetLcL (i := 2) (own := [("word", 3)]) rfl sc_line_told.nd rfl rfl rfl (xiSeq rfl (xMt mt_split' rfl F.plainAttrs_str F.slot_str_split F.type_str_split mt_split (xSl rfl (xVar 0) (xoSome xInt) xoNo) (xaCons xStr xaNil))) (blk_of rfl rfl) (fun _ _ _ _ _ => (wgName (i := 3) (by decide) sc_line_told.nd rfl (.inl rfl))) (fun _ _ _ _ _ => xtsNil) (fun _ _ _ _ _ => (xCall (ok_number_told g) (hr.mono (by decide)) rfl g.f_number_told g.F_number_told.kp (b_number_told g) (xaCons (xVar 3) xaNil))))
    (xsCons (xsIf (xtW (xwOr (xtNot (xtVal (xCallB ct_all (cr_all rfl) rfl g.b_all bt_all (xaCons (xL (xLc (own := [("cell", 4)]) rfl sc_line_told.nd (xiSeq rfl (xVar 2)) (blk_of rfl rfl) (fun _ _ _ _ _ => (wgName (i := 4) (by decide) sc_line_told.nd rfl (.inl rfl))) (fun _ _ _ _ _ => xtsNil) (fun _ _ _ _ _ => (xAnd (xCmp ot_isn op_notN (xVar 4) xNon) (xOne (xCmp ot_lt (oLt (room80 hr)) (xVar 4) (xVar 1))))))) xaNil)))) (xwOr1 (xtNot (xtVal (xCall (ok_is_rising g) (hr.mono (by decide)) rfl g.f_is_rising g.F_is_rising.kp (b_is_rising g) (xaCons (xVar 2) xaNil))))))) (xsOne (xsRet xNon)) xsNil)
    (xsOne (xsRet (xCallTy ct_tuple call_tuple_of rfl g.b_tuple bt_tuple (xaCons (xVar 2) xaNil)))))))
theorem sc_board_told : FnScope ["text", "parts", "size", "lines", "part"] ["text"] (defScope (top 13)) := ⟨rfl, rfl, rfl, by decide +kernel, rfl, by decide +kernel, by decide +kernel⟩
theorem b_board_told (g : Gs w K mg) : Binds K (fdOf K (He.ga K "board_told")) ["text"] [] := g.F_board_told.bindsN fun _ _ _ _ _ _ us hl => match us, hl with | [_], _ => rfl
theorem ok_board_told (g : Gs w K mg) : FnOk P w K mg base CX0 3 (He.ga K "board_told") (fdOf K (He.ga K "board_told")) ["text"] (spM (wd w K) m_board_told) :=
  fnM g.F_board_told sc_board_told 5 1 rfl rfl fun cdv A outer s H E hr =>
    (xsCons (xsSet (i := 1) sc_board_told.nd rfl (.inl rfl) (xIf (xtVal (xIsi (y := .b "str") rfl g.ok rfl (.ty _) g.i_str (xVar 0) (pe_bltn rfl g.b_str bt_str rfl) rfl g.b_isinstance)) (xMt mt_split' rfl F.plainAttrs_str F.slot_str_split F.type_str_split mt_split (xVar 0) (xaCons xStr xaNil)) (xL (xLst xaNil))))
    (xsCons (xsSet (i := 2) sc_board_told.nd rfl (.inr rfl) (xIf (xtCmp ot_eq (op_eqP (room80 hr)) (xCallB ct_len call_len rfl g.b_len bt_len (xaCons (xVar 1) xaNil)) xInt) (xCall (ok_number_told g) (hr.mono (by decide)) rfl g.f_number_told g.F_number_told.kp (b_number_told g) (xaCons (xIx rfl (xVar 1) xInt (fun _ _ => rfl)) xaNil)) xNon))
    (xsCons (xsIf (xtW (xwOr (xtCmp ot_is op_isN (xVar 2) xNon) (xwOr1 (xtNot (xtChain ot_lt ot_le (oLt (room80 hr)) (oLe (room80 hr)) xInt (xVar 2) (xGInt rfl g.c_MOST_CELLS)))))) (xsOne (xsRet xNon)) xsNil)
    (xsCons (xsSet (i := 3) sc_board_told.nd rfl (.inl rfl) (xIf (xtCmp ot_ne (op_neP (room80 hr)) (xIx rfl (xVar 1) xInt (fun _ _ => rfl)) xStr) (xL (xLc (own := [("part", 4)]) rfl sc_board_told.nd (xiSeq rfl (xMt mt_split' rfl F.plainAttrs_str F.slot_str_split F.type_str_split mt_split (xIx rfl (xVar 1) xInt (fun _ _ => rfl)) (xaCons xStr xaNil))) (blk_of rfl rfl) (fun _ _ _ _ _ => (wgName (i := 4) (by decide) sc_board_told.nd rfl (.inl rfl))) (fun _ _ _ _ _ => xtsNil) (fun _ _ _ _ _ => (xCall (ok_line_told g) (hr.mono (by decide)) rfl g.f_line_told g.F_line_told.kp (b_line_told g) (xaCons (xVar 4) (xaCons (xVar 2) xaNil)))))) (xL (xLst xaNil))))
    (xsCons (xsIf (xtW (xwOr (xtCmp ot_inT (oIn (room80 hr)) xNon (xVar 3)) (xwOr (xtCmp ot_gt (oGt (room80 hr)) (xCallB ct_len call_len rfl g.b_len bt_len (xaCons (xVar 3) xaNil)) (xGInt rfl g.c_MOST_LINES)) (xwOr1 (xtNot (xtVal (xCall (ok_is_rising g) (hr.mono (by decide)) rfl g.f_is_rising g.F_is_rising.kp (b_is_rising g) (xaCons (xVar 3) xaNil)))))))) (xsOne (xsRet xNon)) xsNil)
    (xsOne (xsRet (xTup (xaCons (xVar 2) (xaCons (xVar 3) xaNil))))))))))
theorem sc_sheet_told : FnScope ["text", "mine", "its", "board", "size", "lines", "cell"] ["text", "mine", "its"] (defScope (top 16)) := ⟨rfl, rfl, rfl, by decide +kernel, rfl, by decide +kernel, by decide +kernel⟩
theorem b_sheet_told (g : Gs w K mg) : Binds K (fdOf K (He.ga K "sheet_told")) ["text", "mine", "its"] [] := g.F_sheet_told.bindsN fun _ _ _ _ _ _ us hl => match us, hl with | [_, _, _], _ => rfl
theorem ok_sheet_told (g : Gs w K mg) : FnOk P w K mg base CX0 4 (He.ga K "sheet_told") (fdOf K (He.ga K "sheet_told")) ["text", "mine", "its"] (spM (wd w K) m_sheet_told) :=
  fnM g.F_sheet_told sc_sheet_told 7 3 rfl rfl fun cdv A outer s H E hr =>
    (xsCons (xsSet (i := 3) sc_sheet_told.nd rfl (.inl rfl) (xCall (ok_board_told g) (hr.mono (by decide)) rfl g.f_board_told g.F_board_told.kp (b_board_told g) (xaCons (xVar 0) xaNil)))
    (xsCons (xsIf (xtCmp ot_is op_isN (xVar 3) xNon) (xsOne (xsRet xNon)) xsNil)
    (xsCons (xsAsg (xVar 3) (xgTup (n := 2) rfl rfl (xgsCons (xgName (i := 4) sc_sheet_told.nd rfl (.inl rfl)) (xgsCons (xgName (i := 5) sc_sheet_told.nd rfl (.inl rfl)) xgsNil))))
    (xsCons (xsIf (xtW (xwOr (xtNot (xtVal (xCall (ok_are_cells g) (hr.mono (by decide)) rfl g.f_are_cells g.F_are_cells.kp (b_are_cells g) (xaCons (xVar 1) (xaCons (xVar 4) xaNil))))) (xwOr (xtNot (xtVal (xCall (ok_are_cells g) (hr.mono (by decide)) rfl g.f_are_cells g.F_are_cells.kp (b_are_cells g) (xaCons (xVar 2) (xaCons (xVar 4) xaNil))))) (xwOr1 (xtVal (xCallB ct_any (cr_any rfl) rfl g.b_any bt_any (xaCons (xL (xLc (own := [("cell", 6)]) rfl sc_sheet_told.nd (xiSeq rfl (xVar 2)) (blk_of rfl rfl) (fun _ _ _ _ _ => (wgName (i := 6) (by decide) sc_sheet_told.nd rfl (.inl rfl))) (fun _ _ _ _ _ => xtsNil) (fun _ _ _ _ _ => (xCmp ot_inT (oIn (room80 hr)) (xVar 6) (xVar 1))))) xaNil))))))) (xsOne (xsRet xNon)) xsNil)
    (xsOne (xsRet (xMakeU (c := 10) rfl g.m_Sheet (ok_Sheet___init__ g) (hr.mono (by decide)) rfl g.f_Sheet (b_Sheet___init__ g) (xaCons (xVar 4) (xaCons (xVar 5) (xaCons (xVar 1) (xaCons (xVar 2) xaNil)))))))))))
theorem sc_shows_stand : FnScope ["claim", "certificate", "sheet"] ["claim", "certificate"] (defScope (top 47)) := ⟨rfl, rfl, rfl, by decide +kernel, rfl, by decide +kernel, by decide +kernel⟩
theorem b_shows_stand (g : Gs w K mg) : Binds K (fdOf K (He.ga K "shows_stand")) ["claim", "certificate"] [] := g.F_shows_stand.bindsN fun _ _ _ _ _ _ us hl => match us, hl with | [_, _], _ => rfl
theorem ok_shows_stand (g : Gs w K mg) : FnOk P w K mg base CX0 5 (He.ga K "shows_stand") (fdOf K (He.ga K "shows_stand")) ["claim", "certificate"] (spM (wd w K) m_shows_stand) :=
  fnM g.F_shows_stand sc_shows_stand 3 2 rfl rfl fun cdv A outer s H E hr =>
    (xsCons (xsSet (i := 2) sc_shows_stand.nd rfl (.inl rfl) (xCall (ok_sheet_told g) (hr.mono (by decide)) rfl g.f_sheet_told g.F_sheet_told.kp (b_sheet_told g) (xaCons (xIx rfl (xVar 0) xInt (fun _ _ => rfl)) (xaCons (xIx rfl (xVar 0) xInt (fun _ _ => rfl)) (xaCons (xIx rfl (xVar 0) xInt (fun _ _ => rfl)) xaNil)))))
    (xsCons (xsIf (xtCmp ot_is op_isN (xVar 2) xNon) (xsOne (xsRet xBl)) xsNil)
    (xsCons (xsIf (xtCmp ot_eq (op_eqP (room80 hr)) (xIx rfl (xVar 0) xInt (fun _ _ => rfl)) xStr) (xsOne xsBad) xsNil)
    (xsCons (xsIf (xtCmp ot_eq (op_eqP (room80 hr)) (xIx rfl (xVar 0) xInt (fun _ _ => rfl)) xStr) (xsOne xsBad) xsNil)
    (xsCons (xsIf (xtCmp ot_eq (op_eqP (room80 hr)) (xIx rfl (xVar 0) xInt (fun _ _ => rfl)) xStr) (xsOne xsBad) xsNil)
    (xsCons (xsIf (xtCmp ot_eq (op_eqP (room80 hr)) (xIx rfl (xVar 0) xInt (fun _ _ => rfl)) xStr) (xsOne xsBad) xsNil)
    (xsCons (xsIf (xtCmp ot_isn op_notN (xVar 1) xNon) (xsOne (xsRet xBl)) xsNil)
    (xsCons (xsIf (xtCmp ot_eq (op_eqP (room80 hr)) (xIx rfl (xVar 0) xInt (fun _ _ => rfl)) xStr) (xsOne (xsRet (xCall (ok_is_weight g) (hr.mono (by decide)) rfl g.f_is_weight g.F_is_weight.kp (b_is_weight g) (xaCons (xVar 2) (xaCons (xIx rfl (xVar 0) xInt (fun _ _ => rfl)) (xaCons (xIx rfl (xVar 0) xInt (fun _ _ => rfl)) (xaCons (xIx rfl (xVar 0) xInt (fun _ _ => rfl)) xaNil))))))) xsNil)
    (xsOne xsBad)))))))))
theorem sc_accepts : FnScope ["claim", "certificate"] ["claim", "certificate"] (defScope (top 49)) := ⟨rfl, rfl, rfl, by decide +kernel, rfl, by decide +kernel, by decide +kernel⟩
theorem b_accepts (g : Gs w K mg) : Binds K (fdOf K (He.ga K "accepts")) ["claim", "certificate"] [] := g.F_accepts.bindsN fun _ _ _ _ _ _ us hl => match us, hl with | [_, _], _ => rfl
theorem kb_accepts_certificate_claim (g : Gs w K mg) : KwB K (fdOf K (He.ga K "accepts")) ["claim", "certificate"] ["certificate", "claim"] 0 [1, 0] := kwB g.F_accepts fun _ _ _ _ _ _ us ws h1 h2 => match us, ws, h1, h2 with | [], [_, _], _, _ => rfl
theorem ok_accepts (g : Gs w K mg) : FnOk P w K mg base CX0 6 (He.ga K "accepts") (fdOf K (He.ga K "accepts")) ["claim", "certificate"] (spM (wd w K) m_accepts) :=
  fnCut (fnM g.F_accepts sc_accepts 2 2 rfl rfl fun cdv A outer s H E hr =>
    (xsCons (xsIf (xtW (xwOr (xtNot (xtVal (xIsi (y := .b "tuple") rfl g.ok rfl (.ty _) g.i_tuple (xVar 0) (pe_bltn rfl g.b_tuple bt_tuple rfl) rfl g.b_isinstance))) (xwOr (xtCmp ot_eq (op_eqP (room80 hr)) (xVar 0) (xTup xaNil)) (xwOr1 (xtNot (xtVal (xIsi (y := .b "str") rfl g.ok rfl (.ty _) g.i_str (xIx rfl (xVar 0) xInt (fun _ _ => rfl)) (pe_bltn rfl g.b_str bt_str rfl) rfl g.b_isinstance))))))) (xsOne (xsRet xBl)) xsNil)
    (xsCons (xsIf (xtCmp ot_ne (op_neP (room80 hr)) (xGetK rfl g.d_SIZES rfl g.c_SIZES (xIx rfl (xVar 0) xInt (fun _ _ => rfl))) (xCallB ct_len call_len rfl g.b_len bt_len (xaCons (xVar 0) xaNil))) (xsOne (xsRet xBl)) xsNil)
    (xsCons (xsIf (xtCmp ot_inT (oIn (room80 hr)) (xIx rfl (xVar 0) xInt (fun _ _ => rfl)) (xTup (xaCons xStr (xaCons xStr xaNil)))) (xsOne xsBad) xsNil)
    (xsOne (xsRet (xCall (ok_shows_stand g) (hr.mono (by decide)) rfl g.f_shows_stand g.F_shows_stand.kp (b_shows_stand g) (xaCons (xVar 0) (xaCons (xVar 1) xaNil)))))))))
theorem sc_law_judge : FnScope ["_law_claim_here", "_law_paper_here", "_law_due", "_law_told_here"] ["_law_claim_here", "_law_paper_here", "_law_due"] (defScope (top 100)) := ⟨rfl, rfl, rfl, by decide +kernel, rfl, by decide +kernel, by decide +kernel⟩
theorem b_law_judge (g : Gs w K mg) : Binds K (fdOf K (He.ga K "_law_judge")) ["_law_claim_here", "_law_paper_here", "_law_due"] [] := g.F_law_judge.bindsN fun _ _ _ _ _ _ us hl => match us, hl with | [_, _, _], _ => rfl
theorem ok_law_judge (g : Gs w K mg) : FnQ P w K mg base (wd w K) 7 (He.ga K "_law_judge") (fdOf K (He.ga K "_law_judge")) ["_law_claim_here", "_law_paper_here", "_law_due"] m_law_judge :=
  fnQ g.F_law_judge sc_law_judge 4 3 rfl rfl fun cdv A outer s H E hq hr =>
    (xsCons (xsSet (i := 3) sc_law_judge.nd rfl (.inl rfl) (xL (xLst (xaCons (xCall (ok_accepts g) (hr.mono (by decide)) rfl g.f_accepts g.F_accepts.kp (b_accepts g) (xaCons (xVar 0) (xaCons (xVar 1) xaNil))) (xaCons (xCallKw (ok_accepts g) (hr.mono (by decide)) rfl g.f_accepts g.F_accepts.kp (kb_accepts_certificate_claim g) (xkCons (xVar 1) (xkCons (xVar 0) xkNil)) (hn := tma_len (len_cons (len_cons len_nil)))) xaNil)))))
    (xsOne (xsRet (xCmp ot_eq (op_eqP (room80 hr)) (xCallB ct_repr (cr_repr hq (room80 hr)) rfl g.b_repr bt_repr (xaCons (xVar 3) xaNil)) (xCallB ct_repr (cr_repr hq (room80 hr)) rfl g.b_repr bt_repr (xaCons (xL (xLst (xaCons (xVar 2) (xaCons (xVar 2) xaNil)))) xaNil))))))
theorem sc_number_in : FnScope ["word", "most", "sign"] ["word", "most"] (defScope (top 64)) := ⟨rfl, rfl, rfl, by decide +kernel, rfl, by decide +kernel, by decide +kernel⟩
theorem b_number_in (g : Gs w K mg) : Binds K (fdOf K (He.ga K "number_in")) ["word", "most"] [] := g.F_number_in.bindsN fun _ _ _ _ _ _ us hl => match us, hl with | [_, _], _ => rfl
theorem ok_number_in (g : Gs w K mg) : FnOk P w K mg base CX0 1 (He.ga K "number_in") (fdOf K (He.ga K "number_in")) ["word", "most"] (spM (wd w K) m_number_in) :=
  fnM g.F_number_in sc_number_in 3 2 rfl rfl fun cdv A outer s H E hr =>
    (xsCons (xsIf (xtW (xwOr (xtCmp ot_eq (op_eqP (room80 hr)) (xVar 0) xStr) (xwOr (xtNot (xtVal (xCallB ct_all (cr_all rfl) rfl g.b_all bt_all (xaCons (xL (xLc (own := [("sign", 2)]) rfl sc_number_in.nd (xiSeq rfl (xVar 0)) (blk_of rfl rfl) (fun _ _ _ _ _ => (wgName (i := 2) (by decide) sc_number_in.nd rfl (.inl rfl))) (fun _ _ _ _ _ => xtsNil) (fun _ _ _ _ _ => (xCmp ot_inT (oIn (room80 hr)) (xVar 2) (xGStr rfl g.c_DIGITS_names))))) xaNil)))) (xwOr1 (xtW (xwAnd (xtCmp ot_gt (oGt (room80 hr)) (xCallB ct_len call_len rfl g.b_len bt_len (xaCons (xVar 0) xaNil)) xInt) (xwAnd1 (xtCmp ot_eq (op_eqP (room80 hr)) (xIx rfl (xVar 0) xInt (fun _ _ => rfl)) xStr)))))))) (xsOne (xsRet xNon)) xsNil)
    (xsOne (xsRet (xIf (xtW (xwAnd (xtCmp ot_lt (oLt (room80 hr)) (xCallB ct_len call_len rfl g.b_len bt_len (xaCons (xVar 0) xaNil)) xInt) (xwAnd1 (xtCmp ot_le (oLe (room80 hr)) (xCallTy ct_int oInt rfl g.b_int bt_int (xaCons (xVar 0) xaNil)) (xVar 1))))) (xCallTy ct_int oInt rfl g.b_int bt_int (xaCons (xVar 0) xaNil)) xNon))))
theorem sc_line_in : FnScope ["words", "size", "found", "word", "one", "later"] ["words", "size"] (defScope (top 66)) := ⟨rfl, rfl, rfl, by decide +kernel, rfl, by decide +kernel, by decide +kernel⟩
theorem b_line_in (g : Gs w K mg) : Binds K (fdOf K (He.ga K "line_in")) ["words", "size"] [] := g.F_line_in.bindsN fun _ _ _ _ _ _ us hl => match us, hl with | [_, _], _ => rfl
theorem ok_line_in (g : Gs w K mg) : FnOk P w K mg base CX0 2 (He.ga K "line_in") (fdOf K (He.ga K "line_in")) ["words", "size"] (spM (wd w K) m_line_in) :=
  fnM g.F_line_in sc_line_in 6 2 rfl rfl fun cdv A outer s H E hr =>
    (xsCons (xsSetLcL (i := 2) (own := [("word", 3)]) rfl sc_line_in.nd rfl rfl rfl (xiSeq rfl (xMt mt_split' rfl F.plainAttrs_str F.slot_str_split F.type_str_split mt_split (xVar 0) (xaCons xStr xaNil))) (blk_of rfl rfl) (fun _ _ _ _ _ => (wgName (i := 3) (by decide) sc_line_in.nd rfl (.inl rfl))) (fun _ _ _ _ _ => xtsNil) (fun _ _ _ _ _ => (xCall (ok_number_in g) (hr.mono (by decide)) rfl g.f_number_in g.F_number_in.kp (b_number_in g) (xaCons (xVar 3) (xaCons (xOp ot_sub op_sub (xVar 1) xInt) xaNil)))))
    (xsCons (xsIf (xtW (xwOr (xtCmp ot_inT (oIn (room80 hr)) xNon (xVar 2)) (xwOr1 (xtVal (xCallB ct_any (cr_any rfl) rfl g.b_any bt_any (xaCons (xL (xLc (own := [("one", 4), ("later", 5)]) rfl sc_line_in.nd (xiZip rfl rfl g.b_zip (xaCons (xVar 2) (xaCons (xSl rfl (xVar 2) (xoSome xInt) xoNo) xaNil))) (blk_of rfl rfl) (fun _ _ _ _ _ => (wgTup (n := 2) rfl rfl (wgsCons (wgName (i := 4) (by decide) sc_line_in.nd rfl (.inl rfl)) (wgsCons (wgName (i := 5) (by decide) sc_line_in.nd rfl (.inl rfl)) wgsNil)))) (fun _ _ _ _ _ => xtsNil) (fun _ _ _ _ _ => (xCmp ot_ge (oGe (room80 hr)) (xVar 4) (xVar 5))))) xaNil)))))) (xsOne (xsRet xNon)) xsNil)
    (xsOne (xsRet (xCallTy ct_tuple call_tuple_of rfl g.b_tuple bt_tuple (xaCons (xVar 2) xaNil))))))
theorem sc_lines_in : FnScope ["text", "size", "found", "words", "one", "later"] ["text", "size"] (defScope (top 67)) := ⟨rfl, rfl, rfl, by decide +kernel, rfl, by decide +kernel, by decide +kernel⟩
theorem b_lines_in (g : Gs w K mg) : Binds K (fdOf K (He.ga K "lines_in")) ["text", "size"] [] := g.F_lines_in.bindsN fun _ _ _ _ _ _ us hl => match us, hl with | [_, _], _ => rfl
theorem ok_lines_in (g : Gs w K mg) : FnOk P w K mg base CX0 3 (He.ga K "lines_in") (fdOf K (He.ga K "lines_in")) ["text", "size"] (spM (wd w K) m_lines_in) :=
  fnM g.F_lines_in sc_lines_in 6 2 rfl rfl fun cdv A outer s H E hr =>
    (xsCons (xsIf (xtCmp ot_eq (op_eqP (room80 hr)) (xVar 0) xStr) (xsOne (xsRet (xL (xLst xaNil)))) xsNil)
    (xsCons (xsIf (xtCmp ot_ne (op_neP (room80 hr)) (xIx rfl (xVar 0) xInt (fun _ _ => rfl)) xStr) (xsOne (xsRet xNon)) xsNil)
    (xsCons (xsSetLcL (i := 2) (own := [("words", 3)]) rfl sc_lines_in.nd rfl rfl rfl (xiSeq rfl (xMt mt_split' rfl F.plainAttrs_str F.slot_str_split F.type_str_split mt_split (xSl rfl (xVar 0) (xoSome xInt) xoNo) (xaCons xStr xaNil))) (blk_of rfl rfl) (fun _ _ _ _ _ => (wgName (i := 3) (by decide) sc_lines_in.nd rfl (.inl rfl))) (fun _ _ _ _ _ => xtsNil) (fun _ _ _ _ _ => (xCall (ok_line_in g) (hr.mono (by decide)) rfl g.f_line_in g.F_line_in.kp (b_line_in g) (xaCons (xVar 3) (xaCons (xVar 1) xaNil)))))
    (xsCons (xsIf (xtW (xwOr (xtCmp ot_inT (oIn (room80 hr)) xNon (xVar 2)) (xwOr1 (xtCmp ot_gt (oGt (room80 hr)) (xCallB ct_len call_len rfl g.b_len bt_len (xaCons (xVar 2) xaNil)) (xGInt rfl g.c_MOST_LINES))))) (xsOne (xsRet xNon)) xsNil)
    (xsOne (xsRet (xIf (xtVal (xCallB ct_any (cr_any rfl) rfl g.b_any bt_any (xaCons (xL (xLc (own := [("one", 4), ("later", 5)]) rfl sc_lines_in.nd (xiZip rfl rfl g.b_zip (xaCons (xVar 2) (xaCons (xSl rfl (xVar 2) (xoSome xInt) xoNo) xaNil))) (blk_of rfl rfl) (fun _ _ _ _ _ => (wgTup (n := 2) rfl rfl (wgsCons (wgName (i := 4) (by decide) sc_lines_in.nd rfl (.inl rfl)) (wgsCons (wgName (i := 5) (by decide) sc_lines_in.nd rfl (.inl rfl)) wgsNil)))) (fun _ _ _ _ _ => xtsNil) (fun _ _ _ _ _ => (xCmp ot_ge (oGe (room80 hr)) (xVar 4) (xVar 5))))) xaNil))) xNon (xVar 2))))))))
theorem sc_board_in : FnScope ["text", "head", "rest", "size", "lines"] ["text"] (defScope (top 68)) := ⟨rfl, rfl, rfl, by decide +kernel, rfl, by decide +kernel, by decide +kernel⟩
theorem b_board_in (g : Gs w K mg) : Binds K (fdOf K (He.ga K "board_in")) ["text"] [] := g.F_board_in.bindsN fun _ _ _ _ _ _ us hl => match us, hl with | [_], _ => rfl
theorem ok_board_in (g : Gs w K mg) : FnOk P w K mg base CX0 4 (He.ga K "board_in") (fdOf K (He.ga K "board_in")) ["text"] (spM (wd w K) m_board_in) :=
  fnM g.F_board_in sc_board_in 5 1 rfl rfl fun cdv A outer s H E hr =>
    (xsCons (xsIf (xtW (xwOr (xtNot (xtVal (xIsi (y := .b "str") rfl g.ok rfl (.ty _) g.i_str (xVar 0) (pe_bltn rfl g.b_str bt_str rfl) rfl g.b_isinstance))) (xwOr1 (xtCmp ot_ne (op_neP (room80 hr)) (xMt mt_count' rfl F.plainAttrs_str F.slot_str_count F.type_str_count mt_count (xVar 0) (xaCons xStr xaNil)) xInt)))) (xsOne (xsRet xNon)) xsNil)
    (xsCons (xsAsg (xMt mt_split' rfl F.plainAttrs_str F.slot_str_split F.type_str_split mt_split (xVar 0) (xaCons xStr xaNil)) (xgLst (n := 2) rfl rfl (xgsCons (xgName (i := 1) sc_board_in.nd rfl (.inl rfl)) (xgsCons (xgName (i := 2) sc_board_in.nd rfl (.inl rfl)) xgsNil))))
    (xsCons (xsSet (i := 3) sc_board_in.nd rfl (.inl rfl) (xCall (ok_number_in g) (hr.mono (by decide)) rfl g.f_number_in g.F_number_in.kp (b_number_in g) (xaCons (xVar 1) (xaCons (xGInt rfl g.c_MOST_CELLS) xaNil))))
    (xsCons (xsSet (i := 4) sc_board_in.nd rfl (.inl rfl) (xIf (xtW (xwAnd (xtCmp ot_isn op_notN (xVar 3) xNon) (xwAnd1 (xtCmp ot_gt (oGt (room80 hr)) (xVar 3) xInt)))) (xCall (ok_lines_in g) (hr.mono (by decide)) rfl g.f_lines_in g.F_lines_in.kp (b_lines_in g) (xaCons (xVar 2) (xaCons (xVar 3) xaNil))) xNon))
    (xsOne (xsRet (xIf (xtCmp ot_is op_isN (xVar 4) xNon) xNon (xTup (xaCons (xVar 3) (xaCons (xVar 4) xaNil))))))))))
theorem sc_Board___init__ : FnScope ["self", "text", "found"] ["self", "text"] (defScope (mth 70 0)) := ⟨rfl, rfl, rfl, by decide +kernel, rfl, by decide +kernel, by decide +kernel⟩
theorem b_Board___init__ (g : Gs w K mg) : Binds K (fdOf K (He.ma K (He.ga K "Board") "__init__")) ["self", "text"] [] := g.F_Board___init__.bindsN fun _ _ _ _ _ _ us hl => match us, hl with | [_, _], _ => rfl
theorem ok_Board___init__ (g : Gs w K mg) : FnOk P w K mg base CX0 5 (He.ma K (He.ga K "Board") "__init__") (fdOf K (He.ma K (He.ga K "Board") "__init__")) ["self", "text"] (spM (wd w K) m_Board___init__) :=
  fnM g.F_Board___init__ sc_Board___init__ 3 2 rfl rfl fun cdv A outer s H E hr =>
    (xsCons (xsSet (i := 2) sc_Board___init__.nd rfl (.inl rfl) (xCall (ok_board_in g) (hr.mono (by decide)) rfl g.f_board_in g.F_board_in.kp (b_board_in g) (xaCons (xVar 1) xaNil)))
    (xsCons (xsIf (xtCmp ot_is op_isN (xVar 2) xNon) (xsOne xsBad) xsNil)
    (xsCons (xsAsg (xVar 1) (xgFld (c := 0) (i := 0) rfl rfl rfl fn_nd_Board fn_lt_Board g.k_Board.cls g.n_Board_written (xVar 0)))
    (xsOne (xsAsg (xVar 2) (xgTup (n := 2) rfl rfl (xgsCons (xgFld (c := 0) (i := 1) rfl rfl rfl fn_nd_Board fn_lt_Board g.k_Board.cls g.n_Board_many (xVar 0)) (xgsCons (xgFld (c := 0) (i := 2) rfl rfl rfl fn_nd_Board fn_lt_Board g.k_Board.cls g.n_Board_rows (xVar 0)) xgsNil))))))))
theorem sc_Board_size : FnScope ["self"] ["self"] (defScope (mth 70 2)) := ⟨rfl, rfl, rfl, by decide +kernel, rfl, by decide +kernel, by decide +kernel⟩
theorem b_Board_size (g : Gs w K mg) : Binds K (fdOf K (gAd K "Board" "size")) ["self"] [] := g.F_Board_size.bindsN fun _ _ _ _ _ _ us hl => match us, hl with | [_], _ => rfl
theorem ok_Board_size (g : Gs w K mg) : FnOk P w K mg base CX0 1 (gAd K "Board" "size") (fdOf K (gAd K "Board" "size")) ["self"] (spM (wd w K) m_Board_size) :=
  fnM g.F_Board_size sc_Board_size 1 1 rfl rfl fun cdv A outer s H E hr =>
    (xsOne (xsRet (xFld (c := 0) (i := 1) rfl rfl rfl fn_nd_Board g.k_Board.cls g.n_Board_many (xVar 0))))
theorem sc_check_board : FnScope ["board"] ["board"] (defScope (top 71)) := ⟨rfl, rfl, rfl, by decide +kernel, rfl, by decide +kernel, by decide +kernel⟩
theorem b_check_board (g : Gs w K mg) : Binds K (fdOf K (He.ga K "check_board")) ["board"] [] := g.F_check_board.bindsN fun _ _ _ _ _ _ us hl => match us, hl with | [_], _ => rfl
theorem ok_check_board (g : Gs w K mg) : FnOk P w K mg base CX0 1 (He.ga K "check_board") (fdOf K (He.ga K "check_board")) ["board"] (spM (wd w K) m_check_board) :=
  fnM g.F_check_board sc_check_board 1 1 rfl rfl fun cdv A outer s H E hr =>
    (xsOne (xsIf (xtNot (xtVal (xIsi (y := .o 0) rfl g.ok ⟨_, rfl, rfl⟩ (.own _) g.i_Board (xVar 0) (pe_glob rfl g.f_Board rfl) rfl g.b_isinstance))) (xsOne xsBad) xsNil))
theorem sc_is_integer : FnScope ["value"] ["value"] (defScope (top 62)) := ⟨rfl, rfl, rfl, by decide +kernel, rfl, by decide +kernel, by decide +kernel⟩
theorem b_is_integer (g : Gs w K mg) : Binds K (fdOf K (He.ga K "is_integer")) ["value"] [] := g.F_is_integer.bindsN fun _ _ _ _ _ _ us hl => match us, hl with | [_], _ => rfl
theorem ok_is_integer (g : Gs w K mg) : FnOk P w K mg base CX0 1 (He.ga K "is_integer") (fdOf K (He.ga K "is_integer")) ["value"] (spM (wd w K) m_is_integer) :=
  fnM g.F_is_integer sc_is_integer 1 1 rfl rfl fun cdv A outer s H E hr =>
    (xsOne (xsRet (xAnd (xIsi (y := .b "int") rfl g.ok rfl (.ty _) g.i_int (xVar 0) (pe_bltn rfl g.b_int bt_int rfl) rfl g.b_isinstance) (xOne (xNot (xIsi (y := .b "bool") rfl g.ok rfl (.ty _) g.i_bool (xVar 0) (pe_bltn rfl g.b_bool bt_bool rfl) rfl g.b_isinstance))))))
theorem sc_is_between : FnScope ["value", "least", "most"] ["value", "least", "most"] (defScope (top 63)) := ⟨rfl, rfl, rfl, by decide +kernel, rfl, by decide +kernel, by decide +kernel⟩
theorem b_is_between (g : Gs w K mg) : Binds K (fdOf K (He.ga K "is_between")) ["value", "least", "most"] [] := g.F_is_between.bindsN fun _ _ _ _ _ _ us hl => match us, hl with | [_, _, _], _ => rfl
theorem ok_is_between (g : Gs w K mg) : FnOk P w K mg base CX0 2 (He.ga K "is_between") (fdOf K (He.ga K "is_between")) ["value", "least", "most"] (spM (wd w K) m_is_between) :=
  fnM g.F_is_between sc_is_between 3 3 rfl rfl fun cdv A outer s H E hr =>
    (xsOne (xsRet (xAnd (xCall (ok_is_integer g) (hr.mono (by decide)) rfl g.f_is_integer g.F_is_integer.kp (b_is_integer g) (xaCons (xVar 0) xaNil)) (xOne (xChain ot_le ot_le (oLe (room80 hr)) (oLe (room80 hr)) (xVar 1) (xVar 0) (xVar 2))))))
theorem sc_check_cells : FnScope ["cells", "size", "others", "k", "cell"] ["cells", "size", "others"] (defScope (top 73)) := ⟨rfl, rfl, rfl, by decide +kernel, rfl, by decide +kernel, by decide +kernel⟩
theorem b_check_cells (g : Gs w K mg) : Binds K (fdOf K (He.ga K "check_cells")) ["cells", "size", "others"] [] := g.F_check_cells.bindsN fun _ _ _ _ _ _ us hl => match us, hl with | [_, _, _], _ => rfl
theorem ok_check_cells (g : Gs w K mg) : FnOk P w K mg base CX0 3 (He.ga K "check_cells") (fdOf K (He.ga K "check_cells")) ["cells", "size", "others"] (spM (wd w K) m_check_cells) :=
  fnM g.F_check_cells sc_check_cells 5 3 rfl rfl fun cdv A outer s H E hr =>
    (xsCons (xsIf (xtNot (xtVal (xIsi (y := .b "tuple") rfl g.ok rfl (.ty _) g.i_tuple (xVar 0) (pe_bltn rfl g.b_tuple bt_tuple rfl) rfl g.b_isinstance))) (xsOne xsBad) xsNil)
    (xsOne (xsFor (fun _ _ z => z.elim) rfl (xiEnumT rfl rfl g.b_enumerate (xaCons (xVar 0) xaNil)) (xgTup (n := 2) rfl rfl (xgsCons (xgName (i := 3) sc_check_cells.nd rfl (.inl rfl)) (xgsCons (xgName (i := 4) sc_check_cells.nd rfl (.inl rfl)) xgsNil))) (xsOne (xsIf (xtW (xwOr (xtNot (xtVal (xCall (ok_is_between g) (hr.mono (by decide)) rfl g.f_is_between g.F_is_between.kp (b_is_between g) (xaCons (xVar 4) (xaCons xInt (xaCons (xOp ot_sub op_sub (xVar 1) xInt) xaNil)))))) (xwOr (xtW (xwAnd (xtCmp ot_gt (oGt (room80 hr)) (xVar 3) xInt) (xwAnd1 (xtCmp ot_le (oLe (room80 hr)) (xVar 4) (xIx rfl (xVar 0) (xOp ot_sub op_sub (xVar 3) xInt) (fun _ _ => rfl)))))) (xwOr1 (xtCmp ot_inT (oIn (room80 hr)) (xVar 4) (xVar 2)))))) (xsOne xsBad) xsNil)))))
theorem sc_Stand___init__ : FnScope ["self", "board", "first", "second"] ["self", "board", "first", "second"] (defScope (mth 75 0)) := ⟨rfl, rfl, rfl, by decide +kernel, rfl, by decide +kernel, by decide +kernel⟩
theorem b_Stand___init__ (g : Gs w K mg) : Binds K (fdOf K (He.ma K (He.ga K "Stand") "__init__")) ["self", "board", "first", "second"] [] := g.F_Stand___init__.bindsN fun _ _ _ _ _ _ us hl => match us, hl with | [_, _, _, _], _ => rfl
theorem ok_Stand___init__ (g : Gs w K mg) : FnOk P w K mg base CX0 4 (He.ma K (He.ga K "Stand") "__init__") (fdOf K (He.ma K (He.ga K "Stand") "__init__")) ["self", "board", "first", "second"] (spM (wd w K) m_Stand___init__) :=
  fnM g.F_Stand___init__ sc_Stand___init__ 4 4 rfl rfl fun cdv A outer s H E hr =>
    (xsCons (xsExpr (xCall (ok_check_board g) (hr.mono (by decide)) rfl g.f_check_board g.F_check_board.kp (b_check_board g) (xaCons (xVar 1) xaNil)))
    (xsCons (xsExpr (xCall (ok_check_cells g) (hr.mono (by decide)) rfl g.f_check_cells g.F_check_cells.kp (b_check_cells g) (xaCons (xVar 2) (xaCons (xProp (c := 0) rfl rfl g.k_Board.cls g.p_Board_size (ok_Board_size g) (hr.mono (by decide)) (b_Board_size g) (xVar 1)) (xaCons (xTup xaNil) xaNil)))))
    (xsCons (xsExpr (xCall (ok_check_cells g) (hr.mono (by decide)) rfl g.f_check_cells g.F_check_cells.kp (b_check_cells g) (xaCons (xVar 3) (xaCons (xProp (c := 0) rfl rfl g.k_Board.cls g.p_Board_size (ok_Board_size g) (hr.mono (by decide)) (b_Board_size g) (xVar 1)) (xaCons (xVar 2) xaNil)))))
    (xsOne (xsAsg (xTup (xaCons (xVar 1) (xaCons (xVar 2) (xaCons (xVar 3) xaNil)))) (xgTup (n := 3) rfl rfl (xgsCons (xgFld (c := 1) (i := 0) rfl rfl rfl fn_nd_Stand fn_lt_Stand g.k_Stand.cls g.n_Stand_base (xVar 0)) (xgsCons (xgFld (c := 1) (i := 1) rfl rfl rfl fn_nd_Stand fn_lt_Stand g.k_Stand.cls g.n_Stand_mine (xVar 0)) (xgsCons (xgFld (c := 1) (i := 2) rfl rfl rfl fn_nd_Stand fn_lt_Stand g.k_Stand.cls g.n_Stand_others (xVar 0)) xgsNil)))))))))
theorem sc_law_text : FnScope ["_law_size", "_law_rows_here", "_law_parts", "_law_row_here", "_law_spot"] ["_law_size", "_law_rows_here"] (defScope (top 96)) := ⟨rfl, rfl, rfl, by decide +kernel, rfl, by decide +kernel, by decide +kernel⟩
theorem b_law_text (g : Gs w K mg) : Binds K (fdOf K (He.ga K "_law_text")) ["_law_size", "_law_rows_here"] [] := g.F_law_text.bindsN fun _ _ _ _ _ _ us hl => match us, hl with | [_, _], _ => rfl
theorem ok_law_text (g : Gs w K mg) : FnOk P w K mg base CX0 1 (He.ga K "_law_text") (fdOf K (He.ga K "_law_text")) ["_law_size", "_law_rows_here"] (spM (wd w K) m_law_text) :=
  fnM g.F_law_text sc_law_text 5 2 rfl rfl fun cdv A outer s H E hr =>
    (xsCons (xsSetLcL (i := 2) (own := [("_law_row_here", 3)]) rfl sc_law_text.nd rfl rfl rfl (xiSeq rfl (xVar 1)) (blk_of rfl rfl) (fun _ _ _ _ _ => (wgName (i := 3) (by decide) sc_law_text.nd rfl (.inl rfl))) (fun _ _ _ _ _ => xtsNil) (fun _ _ _ _ _ => (xOp ot_add oAdd xStr (xMt mt_join' rfl F.plainAttrs_str F.slot_str_join F.type_str_join mt_join xStr (xaCons (xL (xLc (own := [("_law_spot", 4)]) rfl sc_law_text.nd (xiSeq rfl (xVar 3)) (blk_of rfl rfl) (fun _ _ _ _ _ => (wgName (i := 4) (by decide) sc_law_text.nd rfl (.inl rfl))) (fun _ _ _ _ _ => xtsNil) (fun _ _ _ _ _ => (xCallTy ct_str call_str_int rfl g.b_str bt_str (xaCons (xVar 4) xaNil))))) xaNil)))))
    (xsOne (xsRet (xOp ot_add oAdd (xOp ot_add oAdd (xCallTy ct_str call_str_int rfl g.b_str bt_str (xaCons (xVar 0) xaNil)) xStr) (xMt mt_join' rfl F.plainAttrs_str F.slot_str_join F.type_str_join mt_join xStr (xaCons (xVar 2) xaNil))))))
theorem sc_law_made : FnScope ["_law_frame_here"] ["_law_frame_here"] (defScope (top 98)) := ⟨rfl, rfl, rfl, by decide +kernel, rfl, by decide +kernel, by decide +kernel⟩
theorem b_law_made (g : Gs w K mg) : Binds K (fdOf K (He.ga K "_law_made")) ["_law_frame_here"] [] := g.F_law_made.bindsN fun _ _ _ _ _ _ us hl => match us, hl with | [_], _ => rfl
theorem ok_law_made (g : Gs w K mg) : FnOk P w K mg base CX0 7 (He.ga K "_law_made") (fdOf K (He.ga K "_law_made")) ["_law_frame_here"] (spM (wd w K) m_law_made) :=
  fnM g.F_law_made sc_law_made 1 1 rfl rfl fun cdv A outer s H E hr =>
    (xsOne (xsRet (xMake (c := 1) rfl g.m_Stand (ok_Stand___init__ g) (hr.mono (by decide)) rfl g.f_Stand (b_Stand___init__ g) (xaCons (xMake (c := 0) rfl g.m_Board (ok_Board___init__ g) (hr.mono (by decide)) rfl g.f_Board (b_Board___init__ g) (xaCons (xCall (ok_law_text g) (hr.mono (by decide)) rfl g.f_law_text g.F_law_text.kp (b_law_text g) (xaCons (xIx rfl (xVar 0) xInt (fun _ _ => rfl)) (xaCons (xIx rfl (xVar 0) xInt (fun _ _ => rfl)) xaNil))) xaNil)) (xaCons (xIx rfl (xVar 0) xInt (fun _ _ => rfl)) (xaCons (xIx rfl (xVar 0) xInt (fun _ _ => rfl)) xaNil))))))
theorem sc_law_said : FnScope ["_law_frame_here"] ["_law_frame_here"] (defScope (top 97)) := ⟨rfl, rfl, rfl, by decide +kernel, rfl, by decide +kernel, by decide +kernel⟩
theorem b_law_said (g : Gs w K mg) : Binds K (fdOf K (He.ga K "_law_said")) ["_law_frame_here"] [] := g.F_law_said.bindsN fun _ _ _ _ _ _ us hl => match us, hl with | [_], _ => rfl
theorem ok_law_said (g : Gs w K mg) : FnOk P w K mg base CX0 2 (He.ga K "_law_said") (fdOf K (He.ga K "_law_said")) ["_law_frame_here"] (spM (wd w K) m_law_said) :=
  fnM g.F_law_said sc_law_said 1 1 rfl rfl fun cdv A outer s H E hr =>
    (xsOne (xsRet (xTup (xaCons (xCall (ok_law_text g) (hr.mono (by decide)) rfl g.f_law_text g.F_law_text.kp (b_law_text g) (xaCons (xIx rfl (xVar 0) xInt (fun _ _ => rfl)) (xaCons (xIx rfl (xVar 0) xInt (fun _ _ => rfl)) xaNil))) (xaCons (xIx rfl (xVar 0) xInt (fun _ _ => rfl)) (xaCons (xIx rfl (xVar 0) xInt (fun _ _ => rfl)) xaNil))))))
theorem sc_Stand_free : FnScope ["self", "cell"] ["self"] (defScope (mth 75 4)) := ⟨rfl, rfl, rfl, by decide +kernel, rfl, by decide +kernel, by decide +kernel⟩
theorem b_Stand_free (g : Gs w K mg) : Binds K (fdOf K (gAd K "Stand" "free")) ["self"] [] := g.F_Stand_free.bindsN fun _ _ _ _ _ _ us hl => match us, hl with | [_], _ => rfl
theorem ok_Stand_free (g : Gs w K mg) : FnOk P w K mg base CX0 1 (gAd K "Stand" "free") (fdOf K (gAd K "Stand" "free")) ["self"] (spM (wd w K) m_Stand_free) :=
  fnM g.F_Stand_free sc_Stand_free 2 1 rfl rfl fun cdv A outer s H E hr =>
    (xsOne (xsRet (xCallTy ct_tuple call_tuple_of rfl g.b_tuple bt_tuple (xaCons (xL (xLc (own := [("cell", 1)]) rfl sc_Stand_free.nd (xiRange1 rfl g.b_range (xaCons (xFld (c := 0) (i := 1) rfl rfl rfl fn_nd_Board g.k_Board.cls g.n_Board_many (xFld (c := 1) (i := 0) rfl rfl rfl fn_nd_Stand g.k_Stand.cls g.n_Stand_base (xVar 0))) xaNil)) (blk_of rfl rfl) (fun _ _ _ _ _ => (wgName (i := 1) (by decide) sc_Stand_free.nd rfl (.inl rfl))) (fun _ _ _ _ _ => (xtsOne (xtW (xwAnd (xtCmp ot_ninT (oNin (room80 hr)) (xVar 1) (xFld (c := 1) (i := 1) rfl rfl rfl fn_nd_Stand g.k_Stand.cls g.n_Stand_mine (xVar 0))) (xwAnd1 (xtCmp ot_ninT (oNin (room80 hr)) (xVar 1) (xFld (c := 1) (i := 2) rfl rfl rfl fn_nd_Stand g.k_Stand.cls g.n_Stand_others (xVar 0)))))))) (fun _ _ _ _ _ => (xVar 1)))) xaNil))))
theorem sc_is_live : FnScope ["line", "others", "cell"] ["line", "others"] (defScope (top 76)) := ⟨rfl, rfl, rfl, by decide +kernel, rfl, by decide +kernel, by decide +kernel⟩
theorem b_is_live (g : Gs w K mg) : Binds K (fdOf K (He.ga K "is_live")) ["line", "others"] [] := g.F_is_live.bindsN fun _ _ _ _ _ _ us hl => match us, hl with | [_, _], _ => rfl
theorem ok_is_live (g : Gs w K mg) : FnOk P w K mg base CX0 1 (He.ga K "is_live") (fdOf K (He.ga K "is_live")) ["line", "others"] (spM (wd w K) m_is_live) :=
  fnM g.F_is_live sc_is_live 3 2 rfl rfl fun cdv A outer s H E hr =>
    (xsOne (xsRet (xNot (xCallB ct_any (cr_any rfl) rfl g.b_any bt_any (xaCons (xL (xLc (own := [("cell", 2)]) rfl sc_is_live.nd (xiSeq rfl (xVar 0)) (blk_of rfl rfl) (fun _ _ _ _ _ => (wgName (i := 2) (by decide) sc_is_live.nd rfl (.inl rfl))) (fun _ _ _ _ _ => xtsNil) (fun _ _ _ _ _ => (xCmp ot_inT (oIn (room80 hr)) (xVar 2) (xVar 1))))) xaNil)))))
theorem sc_rest_of : FnScope ["line", "mine", "cell"] ["line", "mine"] (defScope (top 77)) := ⟨rfl, rfl, rfl, by decide +kernel, rfl, by decide +kernel, by decide +kernel⟩
theorem b_rest_of (g : Gs w K mg) : Binds K (fdOf K (He.ga K "rest_of")) ["line", "mine"] [] := g.F_rest_of.bindsN fun _ _ _ _ _ _ us hl => match us, hl with | [_, _], _ => rfl
theorem ok_rest_of (g : Gs w K mg) : FnOk P w K mg base CX0 1 (He.ga K "rest_of") (fdOf K (He.ga K "rest_of")) ["line", "mine"] (spM (wd w K) m_rest_of) :=
  fnM g.F_rest_of sc_rest_of 3 2 rfl rfl fun cdv A outer s H E hr =>
    (xsOne (xsRet (xCallTy ct_tuple call_tuple_of rfl g.b_tuple bt_tuple (xaCons (xL (xLc (own := [("cell", 2)]) rfl sc_rest_of.nd (xiSeq rfl (xVar 0)) (blk_of rfl rfl) (fun _ _ _ _ _ => (wgName (i := 2) (by decide) sc_rest_of.nd rfl (.inl rfl))) (fun _ _ _ _ _ => (xtsOne (xtCmp ot_ninT (oNin (room80 hr)) (xVar 2) (xVar 1)))) (fun _ _ _ _ _ => (xVar 2)))) xaNil))))
theorem sc_Stand_rests : FnScope ["self", "line"] ["self"] (defScope (mth 75 6)) := ⟨rfl, rfl, rfl, by decide +kernel, rfl, by decide +kernel, by decide +kernel⟩
theorem b_Stand_rests (g : Gs w K mg) : Binds K (fdOf K (gAd K "Stand" "rests")) ["self"] [] := g.F_Stand_rests.bindsN fun _ _ _ _ _ _ us hl => match us, hl with | [_], _ => rfl
theorem ok_Stand_rests (g : Gs w K mg) : FnOk P w K mg base CX0 2 (gAd K "Stand" "rests") (fdOf K (gAd K "Stand" "rests")) ["self"] (spM (wd w K) m_Stand_rests) :=
  fnM g.F_Stand_rests sc_Stand_rests 2 1 rfl rfl fun cdv A outer s H E hr =>
    (xsOne (xsRet (xCallTy ct_tuple call_tuple_of rfl g.b_tuple bt_tuple (xaCons (xL (xLc (own := [("line", 1)]) rfl sc_Stand_rests.nd (xiSeq rfl (xFld (c := 0) (i := 2) rfl rfl rfl fn_nd_Board g.k_Board.cls g.n_Board_rows (xFld (c := 1) (i := 0) rfl rfl rfl fn_nd_Stand g.k_Stand.cls g.n_Stand_base (xVar 0)))) (blk_of rfl rfl) (fun _ _ _ _ _ => (wgName (i := 1) (by decide) sc_Stand_rests.nd rfl (.inl rfl))) (fun _ _ _ _ _ => (xtsOne (xtVal (xCall (ok_is_live g) (hr.mono (by decide)) rfl g.f_is_live g.F_is_live.kp (b_is_live g) (xaCons (xVar 1) (xaCons (xFld (c := 1) (i := 2) rfl rfl rfl fn_nd_Stand g.k_Stand.cls g.n_Stand_others (xVar 0)) xaNil)))))) (fun _ _ _ _ _ => (xCall (ok_rest_of g) (hr.mono (by decide)) rfl g.f_rest_of g.F_rest_of.kp (b_rest_of g) (xaCons (xVar 1) (xaCons (xFld (c := 1) (i := 1) rfl rfl rfl fn_nd_Stand g.k_Stand.cls g.n_Stand_mine (xVar 0)) xaNil)))))) xaNil))))
theorem sc_check_many : FnScope ["many"] ["many"] (defScope (top 83)) := ⟨rfl, rfl, rfl, by decide +kernel, rfl, by decide +kernel, by decide +kernel⟩
theorem b_check_many (g : Gs w K mg) : Binds K (fdOf K (He.ga K "check_many")) ["many"] [] := g.F_check_many.bindsN fun _ _ _ _ _ _ us hl => match us, hl with | [_], _ => rfl
theorem ok_check_many (g : Gs w K mg) : FnOk P w K mg base CX0 3 (He.ga K "check_many") (fdOf K (He.ga K "check_many")) ["many"] (spM (wd w K) m_check_many) :=
  fnM g.F_check_many sc_check_many 1 1 rfl rfl fun cdv A outer s H E hr =>
    (xsOne (xsIf (xtNot (xtVal (xCall (ok_is_between g) (hr.mono (by decide)) rfl g.f_is_between g.F_is_between.kp (b_is_between g) (xaCons (xVar 0) (xaCons xInt (xaCons xInt xaNil)))))) (xsOne xsBad) xsNil))
theorem sc_check_stand : FnScope ["stand"] ["stand"] (defScope (top 79)) := ⟨rfl, rfl, rfl, by decide +kernel, rfl, by decide +kernel, by decide +kernel⟩
theorem b_check_stand (g : Gs w K mg) : Binds K (fdOf K (He.ga K "check_stand")) ["stand"] [] := g.F_check_stand.bindsN fun _ _ _ _ _ _ us hl => match us, hl with | [_], _ => rfl
theorem ok_check_stand (g : Gs w K mg) : FnOk P w K mg base CX0 1 (He.ga K "check_stand") (fdOf K (He.ga K "check_stand")) ["stand"] (spM (wd w K) m_check_stand) :=
  fnM g.F_check_stand sc_check_stand 1 1 rfl rfl fun cdv A outer s H E hr =>
    (xsOne (xsIf (xtNot (xtVal (xIsi (y := .o 1) rfl g.ok ⟨_, rfl, rfl⟩ (.own _) g.i_Stand (xVar 0) (pe_glob rfl g.f_Stand rfl) rfl g.b_isinstance))) (xsOne xsBad) xsNil))
theorem sc_divisor : FnScope ["one", "other"] ["one", "other"] (defScope (top 84)) := ⟨rfl, rfl, rfl, by decide +kernel, rfl, by decide +kernel, by decide +kernel⟩
theorem b_divisor (g : Gs w K mg) : Binds K (fdOf K (He.ga K "divisor")) ["one", "other"] [] := g.F_divisor.bindsN fun _ _ _ _ _ _ us hl => match us, hl with | [_, _], _ => rfl
theorem ok_divisor (g : Gs w K mg) : FnOk P w K mg base CX0 1 (He.ga K "divisor") (fdOf K (He.ga K "divisor")) ["one", "other"] (spM (wd w K) m_divisor) :=
  fnM g.F_divisor sc_divisor 2 2 rfl rfl fun cdv A outer s H E hr =>
    (xsCons (xsWhile 1000 (fun _ _ z => z.elim) (xtCmp ot_gt (oGt (room80 hr)) (xVar 1) xInt) (xsOne (xsPar (i := 0) (j := 1) rfl sc_divisor.nd rfl rfl (by decide) rfl rfl (xaCons (xVar 1) (xaCons (xOp ot_mod op_mod (xVar 0) (xVar 1)) xaNil)) rfl)))
    (xsOne (xsRet (xVar 0))))
theorem sc_reduced : FnScope ["ratio", "by"] ["ratio"] (defScope (top 88)) := ⟨rfl, rfl, rfl, by decide +kernel, rfl, by decide +kernel, by decide +kernel⟩
theorem b_reduced (g : Gs w K mg) : Binds K (fdOf K (He.ga K "reduced")) ["ratio"] [] := g.F_reduced.bindsN fun _ _ _ _ _ _ us hl => match us, hl with | [_], _ => rfl
theorem ok_reduced (g : Gs w K mg) : FnOk P w K mg base CX0 2 (He.ga K "reduced") (fdOf K (He.ga K "reduced")) ["ratio"] (spM (wd w K) m_reduced) :=
  fnM g.F_reduced sc_reduced 2 1 rfl rfl fun cdv A outer s H E hr =>
    (xsCons (xsSet (i := 1) sc_reduced.nd rfl (.inl rfl) (xCall (ok_divisor g) (hr.mono (by decide)) rfl g.f_divisor g.F_divisor.kp (b_divisor g) (xaCons (xIx rfl (xVar 0) xInt (fun _ _ => rfl)) (xaCons (xIx rfl (xVar 0) xInt (fun _ _ => rfl)) xaNil))))
    (xsOne (xsRet (xTup (xaCons (xOp ot_fdvW op_fdivW (xIx rfl (xVar 0) xInt (fun _ _ => rfl)) (xVar 1)) (xaCons (xOp ot_fdvW op_fdivW (xIx rfl (xVar 0) xInt (fun _ _ => rfl)) (xVar 1)) xaNil))))))
theorem sc_power : FnScope ["base", "exponent", "found", "turn"] ["base", "exponent"] (defScope (top 85)) := ⟨rfl, rfl, rfl, by decide +kernel, rfl, by decide +kernel, by decide +kernel⟩
theorem b_power (g : Gs w K mg) : Binds K (fdOf K (He.ga K "power_weights")) ["base", "exponent"] [] := g.F_power.bindsN fun _ _ _ _ _ _ us hl => match us, hl with | [_, _], _ => rfl
theorem ok_power (g : Gs w K mg) : FnOk P w K mg base CX0 1 (He.ga K "power_weights") (fdOf K (He.ga K "power_weights")) ["base", "exponent"] (spM (wd w K) m_power) :=
  fnM g.F_power sc_power 4 2 rfl rfl fun cdv A outer s H E hr =>
    (xsCons (xsSet (i := 2) sc_power.nd rfl (.inl rfl) xInt)
    (xsCons (xsFor (fun _ _ z => z.elim) rfl (xiRange1 rfl g.b_range (xaCons (xVar 1) xaNil)) (xgName (i := 3) sc_power.nd rfl (.inl rfl)) (xsOne (xsSet (i := 2) sc_power.nd rfl (.inl rfl) (xOp ot_mul oMul (xVar 2) (xVar 0)))))
    (xsOne (xsRet (xVar 2)))))
theorem sc_weight_of : FnScope ["rests", "many", "size", "rest"] ["rests", "many", "size"] (defScope (top 87)) := ⟨rfl, rfl, rfl, by decide +kernel, rfl, by decide +kernel, by decide +kernel⟩
theorem b_weight_of (g : Gs w K mg) : Binds K (fdOf K (He.ga K "weight_of")) ["rests", "many", "size"] [] := g.F_weight_of.bindsN fun _ _ _ _ _ _ us hl => match us, hl with | [_, _, _], _ => rfl
theorem ok_weight_of (g : Gs w K mg) : FnOk P w K mg base CX0 2 (He.ga K "weight_of") (fdOf K (He.ga K "weight_of")) ["rests", "many", "size"] (spM (wd w K) m_weight_of) :=
  fnM g.F_weight_of sc_weight_of 4 3 rfl rfl fun cdv A outer s H E hr =>
    (xsOne (xsRet (xTup (xaCons (xCallB ct_sum (cr_sum rfl) rfl g.b_sum bt_sum (xaCons (xL (xLc (own := [("rest", 3)]) rfl sc_weight_of.nd (xiSeq rfl (xVar 0)) (blk_of rfl rfl) (fun _ _ _ _ _ => (wgName (i := 3) (by decide) sc_weight_of.nd rfl (.inl rfl))) (fun _ _ _ _ _ => xtsNil) (fun _ _ _ _ _ => (xCall (ok_power g) (hr.mono (by decide)) rfl g.f_power g.F_power.kp (b_power g) (xaCons (xOp ot_add oAdd (xVar 1) xInt) (xaCons (xOp ot_sub op_sub (xVar 2) (xCallB ct_len call_len rfl g.b_len bt_len (xaCons (xVar 3) xaNil))) xaNil)))))) xaNil)) (xaCons (xCall (ok_power g) (hr.mono (by decide)) rfl g.f_power g.F_power.kp (b_power g) (xaCons (xOp ot_add oAdd (xVar 1) xInt) (xaCons (xVar 2) xaNil))) xaNil)))))
theorem sc_weight : FnScope ["stand", "many"] ["stand", "many"] (defScope (top 89)) := ⟨rfl, rfl, rfl, by decide +kernel, rfl, by decide +kernel, by decide +kernel⟩
theorem b_weight (g : Gs w K mg) : Binds K (fdOf K (He.ga K "weight")) ["stand", "many"] [] := g.F_weight.bindsN fun _ _ _ _ _ _ us hl => match us, hl with | [_, _], _ => rfl
theorem ok_weight (g : Gs w K mg) : FnOk P w K mg base CX0 4 (He.ga K "weight") (fdOf K (He.ga K "weight")) ["stand", "many"] (spM (wd w K) m_weight) :=
  fnM g.F_weight sc_weight 2 2 rfl rfl fun cdv A outer s H E hr =>
    (xsCons (xsExpr (xCall (ok_check_stand g) (hr.mono (by decide)) rfl g.f_check_stand g.F_check_stand.kp (b_check_stand g) (xaCons (xVar 0) xaNil)))
    (xsCons (xsExpr (xCall (ok_check_many g) (hr.mono (by decide)) rfl g.f_check_many g.F_check_many.kp (b_check_many g) (xaCons (xVar 1) xaNil)))
    (xsOne (xsRet (xCall (ok_reduced g) (hr.mono (by decide)) rfl g.f_reduced g.F_reduced.kp (b_reduced g) (xaCons (xCall (ok_weight_of g) (hr.mono (by decide)) rfl g.f_weight_of g.F_weight_of.kp (b_weight_of g) (xaCons (xProp (c := 1) rfl rfl g.k_Stand.cls g.p_Stand_rests (ok_Stand_rests g) (hr.mono (by decide)) (b_Stand_rests g) (xVar 0)) (xaCons (xVar 1) (xaCons (xCallB ct_len call_len rfl g.b_len bt_len (xaCons (xProp (c := 1) rfl rfl g.k_Stand.cls g.p_Stand_free (ok_Stand_free g) (hr.mono (by decide)) (b_Stand_free g) (xVar 0)) xaNil)) xaNil)))) xaNil))))))
theorem sc_law_right : FnScope ["_law_bag_here", "_law_turn", "_law_size", "_law_frame_here", "_law_n", "_law_mine", "_law_due", "_law_begin", "_law_some", "_law_each", "_law_odd", "_law_paper_here"] ["_law_bag_here"] (defScope (top 103)) := ⟨rfl, rfl, rfl, by decide +kernel, rfl, by decide +kernel, by decide +kernel⟩
theorem b_law_right (g : Gs w K mg) : Binds K (fdOf K (He.ga K "_law_right")) ["_law_bag_here"] [] := g.F_law_right.bindsN fun _ _ _ _ _ _ us hl => match us, hl with | [_], _ => rfl
theorem ok_law_right (g : Gs w K mg) : FnQ P w K mg base (wd w K) 8 (He.ga K "_law_right") (fdOf K (He.ga K "_law_right")) ["_law_bag_here"] m_law_right :=
  fnQ g.F_law_right sc_law_right 12 1 rfl rfl fun cdv A outer s H E hq hr =>
    (xsCons (xsFor (fun _ _ z => z.elim) rfl (xiRange1 rfl g.b_range (xaCons xInt xaNil)) (xgName (i := 1) sc_law_right.nd rfl (.inl rfl)) (xsCons (xsSet (i := 2) sc_law_right.nd rfl (.inl rfl) (xCall (ok_law_of g) (hr.mono (by decide)) rfl g.f_law_of g.F_law_of.kp (b_law_of g) (xaCons (xVar 0) (xaCons (xL (xLst (xaCons xInt (xaCons xInt (xaCons xInt (xaCons xInt (xaCons xInt xaNil))))))) xaNil))))
    (xsCons (xsSet (i := 3) sc_law_right.nd rfl (.inl rfl) (xCall (ok_law_frame g) (hr.mono (by decide)) rfl g.f_law_frame g.F_law_frame.kp (b_law_frame g) (xaCons (xVar 0) (xaCons (xVar 2) (xaCons (xCall (ok_law_of g) (hr.mono (by decide)) rfl g.f_law_of g.F_law_of.kp (b_law_of g) (xaCons (xVar 0) (xaCons (xL (xLst (xaCons xInt (xaCons xInt (xaCons xInt (xaCons xInt xaNil)))))) xaNil))) (xaCons (xCall (ok_law_of g) (hr.mono (by decide)) rfl g.f_law_of g.F_law_of.kp (b_law_of g) (xaCons (xVar 0) (xaCons (xL (xLst (xaCons xInt (xaCons xInt (xaCons (xVar 2) xaNil))))) xaNil))) xaNil))))))
    (xsCons (xsPar (i := 4) (j := 5) rfl sc_law_right.nd rfl rfl (by decide) rfl rfl (xaCons (xOp ot_add oAdd xInt (xCall (ok_law_take g) (hr.mono (by decide)) rfl g.f_law_take g.F_law_take.kp (b_law_take g) (xaCons (xVar 0) (xaCons xInt xaNil)))) (xaCons (xCall (ok_law_made g) (hr.mono (by decide)) rfl g.f_law_made g.F_law_made.kp (b_law_made g) (xaCons (xVar 3) xaNil)) xaNil)) rfl)
    (xsCons (xsSet (i := 6) sc_law_right.nd rfl (.inl rfl) (xCall (ok_law_heavy g) (hr.mono (by decide)) rfl g.f_law_heavy g.F_law_heavy.kp (b_law_heavy g) (xaCons (xVar 3) (xaCons (xVar 4) xaNil))))
    (xsCons (xsIf (xtCmp ot_ne (op_neP (room80 hr)) (xCall (ok_weight g) (hr.mono (by decide)) rfl g.f_weight g.F_weight.kp (b_weight g) (xaCons (xVar 5) (xaCons (xVar 4) xaNil))) (xVar 6)) (xsOne (xsRet xBl)) xsNil)
    (xsCons (xsSet (i := 7) sc_law_right.nd rfl (.inl rfl) (xOp ot_add oAdd (xTup (xaCons xStr xaNil)) (xCall (ok_law_said g) (hr.mono (by decide)) rfl g.f_law_said g.F_law_said.kp (b_law_said g) (xaCons (xVar 3) xaNil))))
    (xsCons (xsIf (xtNot (xtVal (xCallQ (ok_law_judge g) hq (hr.mono (by decide)) rfl g.f_law_judge g.F_law_judge.kp (b_law_judge g) (xaCons (xOp ot_add oAdd (xOp ot_add oAdd (xVar 7) (xTup (xaCons (xVar 4) xaNil))) (xVar 6)) (xaCons xNon (xaCons xBl xaNil)))))) (xsOne (xsRet xBl)) xsNil)
    (xsCons (xsSet (i := 8) sc_law_right.nd rfl (.inl rfl) (xL (xLst (xaCons (xTup (xaCons (xOp ot_mul oMul xInt (xIx rfl (xVar 6) xInt (fun _ _ => rfl))) (xaCons (xOp ot_mul oMul xInt (xIx rfl (xVar 6) xInt (fun _ _ => rfl))) xaNil))) (xaCons (xTup (xaCons (xOp ot_add oAdd (xIx rfl (xVar 6) xInt (fun _ _ => rfl)) xInt) (xaCons (xIx rfl (xVar 6) xInt (fun _ _ => rfl)) xaNil))) (xaCons (xTup (xaCons (xIx rfl (xVar 6) xInt (fun _ _ => rfl)) (xaCons (xOp ot_add oAdd (xIx rfl (xVar 6) xInt (fun _ _ => rfl)) xInt) xaNil))) xaNil))))))
    (xsCons (xsSet (i := 8) sc_law_right.nd rfl (.inl rfl) (xOp ot_add oAdd (xVar 8) (xL (xLst (xaCons (xTup (xaCons (xNeg (xIx rfl (xVar 6) xInt (fun _ _ => rfl))) (xaCons (xNeg (xIx rfl (xVar 6) xInt (fun _ _ => rfl))) xaNil))) (xaCons (xTup (xaCons (xIx rfl (xVar 6) xInt (fun _ _ => rfl)) (xaCons xInt xaNil))) xaNil))))))
    (xsCons (xsSet (i := 8) sc_law_right.nd rfl (.inl rfl) (xOp ot_add oAdd (xVar 8) (xL (xLst (xaCons (xTup (xaCons (xIx rfl (xVar 6) xInt (fun _ _ => rfl)) (xaCons xNon xaNil))) (xaCons (xTup (xaCons xNon (xaCons (xIx rfl (xVar 6) xInt (fun _ _ => rfl)) xaNil))) (xaCons (xTup (xaCons (xCallTy ct_str call_str_int rfl g.b_str bt_str (xaCons (xIx rfl (xVar 6) xInt (fun _ _ => rfl)) xaNil)) (xaCons (xIx rfl (xVar 6) xInt (fun _ _ => rfl)) xaNil))) xaNil)))))))
    (xsCons (xsSet (i := 8) sc_law_right.nd rfl (.inl rfl) (xOp ot_add oAdd (xVar 8) (xL (xLst (xaCons (xTup (xaCons (xIx rfl (xVar 6) xInt (fun _ _ => rfl)) (xaCons (xIx rfl (xVar 6) xInt (fun _ _ => rfl)) xaNil))) (xaCons (xTup (xaCons xInt (xaCons xInt xaNil))) (xaCons (xTup (xaCons xInt (xaCons xInt xaNil))) xaNil)))))))
    (xsCons (xsFor (fun _ _ z => z.elim) rfl (xiSeq rfl (xVar 8)) (xgName (i := 9) sc_law_right.nd rfl (.inl rfl)) (xsOne (xsIf (xtNot (xtVal (xCallQ (ok_law_judge g) hq (hr.mono (by decide)) rfl g.f_law_judge g.F_law_judge.kp (b_law_judge g) (xaCons (xOp ot_add oAdd (xOp ot_add oAdd (xVar 7) (xTup (xaCons (xVar 4) xaNil))) (xVar 9)) (xaCons xNon (xaCons (xCmp ot_eq (op_eqP (room80 hr)) (xCallB ct_repr (cr_repr hq (room80 hr)) rfl g.b_repr bt_repr (xaCons (xVar 9) xaNil)) (xCallB ct_repr (cr_repr hq (room80 hr)) rfl g.b_repr bt_repr (xaCons (xVar 6) xaNil))) xaNil)))))) (xsOne (xsRet xBl)) xsNil)))
    (xsCons (xsFor (fun _ _ z => z.elim) rfl (xiSeq rfl (xL (xLst (xaCons xInt (xaCons xInt (xaCons (xNeg (xVar 4)) (xaCons xNon (xaCons xBl (xaCons xStr (xaCons (xTup (xaCons (xVar 4) xaNil)) xaNil)))))))))) (xgName (i := 10) sc_law_right.nd rfl (.inl rfl)) (xsOne (xsIf (xtNot (xtVal (xCallQ (ok_law_judge g) hq (hr.mono (by decide)) rfl g.f_law_judge g.F_law_judge.kp (b_law_judge g) (xaCons (xOp ot_add oAdd (xOp ot_add oAdd (xVar 7) (xTup (xaCons (xVar 10) xaNil))) (xVar 6)) (xaCons xNon (xaCons xBl xaNil)))))) (xsOne (xsRet xBl)) xsNil)))
    (xsOne (xsFor (fun _ _ z => z.elim) rfl (xiSeq rfl (xL (xLst (xaCons (xTup xaNil) (xaCons xInt (xaCons xBl (xaCons xStr (xaCons (xVar 6) (xaCons (xTup (xaCons xNon xaNil)) (xaCons xDNew xaNil)))))))))) (xgName (i := 11) sc_law_right.nd rfl (.inl rfl)) (xsOne (xsIf (xtNot (xtVal (xCallQ (ok_law_judge g) hq (hr.mono (by decide)) rfl g.f_law_judge g.F_law_judge.kp (b_law_judge g) (xaCons (xOp ot_add oAdd (xOp ot_add oAdd (xVar 7) (xTup (xaCons (xVar 4) xaNil))) (xVar 6)) (xaCons (xVar 11) (xaCons xBl xaNil)))))) (xsOne (xsRet xBl)) xsNil))))))))))))))))))
    (xsOne (xsRet xBl)))
theorem sc_law : FnScope ["_law_script", "_law_spot"] ["_law_script"] (defScope (top 104)) := ⟨rfl, rfl, rfl, by decide +kernel, rfl, by decide +kernel, by decide +kernel⟩
theorem ok_law (g : Gs w K mg) : FnQ P w K mg base (wd w K) 9 (He.ga K "law") (fdOf K (He.ga K "law")) ["_law_script"] m_law :=
  fnQ g.F_law sc_law 2 1 rfl rfl fun cdv A outer s H E hq hr =>
    (xsOne (xsRet (xCallB ct_all (cr_all rfl) rfl g.b_all bt_all (xaCons (xL (xLc (own := [("_law_spot", 1)]) rfl sc_law.nd (xiRange1 rfl g.b_range (xaCons (xCallB ct_max2 (call_max2 rfl) rfl g.b_max bt_max (xaCons xInt (xaCons (xCallB ct_min2 (call_min2 rfl) rfl g.b_min bt_min (xaCons (xCallB ct_len call_len rfl g.b_len bt_len (xaCons (xVar 0) xaNil)) (xaCons xInt xaNil))) xaNil))) xaNil)) (blk_of rfl rfl) (fun _ _ _ _ _ => (wgName (i := 1) (by decide) sc_law.nd rfl (.inl rfl))) (fun _ _ _ _ _ => xtsNil) (fun _ _ _ _ _ => (xCallQ (ok_law_right g) hq (hr.mono (by decide)) rfl g.f_law_right g.F_law_right.kp (b_law_right g) (xaCons (xCall (ok_law_bag g) (hr.mono (by decide)) rfl g.f_law_bag g.F_law_bag.kp (b_law_bag g) (xaCons (xVar 0) (xaCons (xVar 1) xaNil))) xaNil))))) xaNil))))
end
end K54
namespace K54
open K58
open K06
open K13 hiding m_law_rows s_law_rows
open K66
open PySem PySem.Spec PyProof.Rows L2 TL
theorem gs {w : World} {K : PySem.W.Frag} {h : Heap} {mg : Str → Option Value} (X : K.In h) (G : h.Ns mainGlobals mg) (c : He.SaysX fa fn ts [] ex w h K) (cp : prs.map (prW K) = prs.map PrD.val) : Gs w K mg := by
  have cd := c.t.d
  have e_cf_Board : (cfB K (He.ga K "Board")) = true := List.all_eq_true.mp c.more _ (List.mem_of_getElem? (i := 0) rfl)
  have e_cf_Stand : (cfB K (He.ga K "Stand")) = true := List.all_eq_true.mp c.more _ (List.mem_of_getElem? (i := 1) rfl)
  have e_cf_Sheet : (cfB K (He.ga K "Sheet")) = true := List.all_eq_true.mp c.more _ (List.mem_of_getElem? (i := 2) rfl)
  have e_i_Board : (isiChk cl K (.ref (He.ga K "Board")) (.o 0)) = true := List.all_eq_true.mp c.more _ (List.mem_of_getElem? (i := 3) rfl)
  have e_i_Stand : (isiChk cl K (.ref (He.ga K "Stand")) (.o 1)) = true := List.all_eq_true.mp c.more _ (List.mem_of_getElem? (i := 4) rfl)
  have e_i_bool : (isiChk cl K (.type "bool") (.b "bool")) = true := List.all_eq_true.mp c.more _ (List.mem_of_getElem? (i := 5) rfl)
  have e_i_int : (isiChk cl K (.type "int") (.b "int")) = true := List.all_eq_true.mp c.more _ (List.mem_of_getElem? (i := 6) rfl)
  have e_i_str : (isiChk cl K (.type "str") (.b "str")) = true := List.all_eq_true.mp c.more _ (List.mem_of_getElem? (i := 7) rfl)
  have e_i_tuple : (isiChk cl K (.type "tuple") (.b "tuple")) = true := List.all_eq_true.mp c.more _ (List.mem_of_getElem? (i := 8) rfl)
  have e_d_SIZES : (kdB K "SIZES" kv_SIZES) = true := List.all_eq_true.mp c.more _ (List.mem_of_getElem? (i := 9) rfl)
  have e_pr_Board_size : (prB K pr_Board_size) = true := List.all_eq_true.mp c.more _ (List.mem_of_getElem? (i := 10) rfl)
  have e_pr_Stand_free : (prB K pr_Stand_free) = true := List.all_eq_true.mp c.more _ (List.mem_of_getElem? (i := 11) rfl)
  have e_pr_Stand_rests : (prB K pr_Stand_rests) = true := List.all_eq_true.mp c.more _ (List.mem_of_getElem? (i := 12) rfl)
  have k_Board : CF K (He.ga K "Board") := cf_of (cd.fact 64 (f := .cls "Board") rfl) e_cf_Board
  have k_Stand : CF K (He.ga K "Stand") := cf_of (cd.fact 67 (f := .cls "Stand") rfl) e_cf_Stand
  have k_Sheet : CF K (He.ga K "Sheet") := cf_of (cd.fact 70 (f := .cls "Sheet") rfl) e_cf_Sheet
  exact {
    b_abs := He.free_ok X G (cd.fact 0 (f := .free "abs") rfl)
    b_all := He.free_ok X G (cd.fact 1 (f := .free "all") rfl)
    b_any := He.free_ok X G (cd.fact 2 (f := .free "any") rfl)
    b_bool := He.free_ok X G (cd.fact 3 (f := .free "bool") rfl)
    b_divmod := He.free_ok X G (cd.fact 4 (f := .free "divmod") rfl)
    b_enumerate := He.free_ok X G (cd.fact 5 (f := .free "enumerate") rfl)
    b_int := He.free_ok X G (cd.fact 6 (f := .free "int") rfl)
    b_isinstance := He.free_ok X G (cd.fact 7 (f := .free "isinstance") rfl)
    b_len := He.free_ok X G (cd.fact 8 (f := .free "len") rfl)
    b_list := He.free_ok X G (cd.fact 9 (f := .free "list") rfl)
    b_max := He.free_ok X G (cd.fact 10 (f := .free "max") rfl)
    b_min := He.free_ok X G (cd.fact 11 (f := .free "min") rfl)
    b_range := He.free_ok X G (cd.fact 12 (f := .free "range") rfl)
    b_repr := He.free_ok X G (cd.fact 13 (f := .free "repr") rfl)
    b_set := He.free_ok X G (cd.fact 14 (f := .free "set") rfl)
    b_sorted := He.free_ok X G (cd.fact 15 (f := .free "sorted") rfl)
    b_str := He.free_ok X G (cd.fact 16 (f := .free "str") rfl)
    b_sum := He.free_ok X G (cd.fact 17 (f := .free "sum") rfl)
    b_tuple := He.free_ok X G (cd.fact 18 (f := .free "tuple") rfl)
    b_zip := He.free_ok X G (cd.fact 19 (f := .free "zip") rfl)
    p_Board_size := (pr_ok (pr_at cp (i := 0) (d := pr_Board_size) rfl) e_pr_Board_size).2
    F_Board_size := let ⟨⟨_, z⟩, _⟩ := pr_ok (pr_at cp (i := 0) (d := pr_Board_size) rfl) e_pr_Board_size; funD_at z
    p_Stand_free := (pr_ok (pr_at cp (i := 1) (d := pr_Stand_free) rfl) e_pr_Stand_free).2
    F_Stand_free := let ⟨⟨_, z⟩, _⟩ := pr_ok (pr_at cp (i := 1) (d := pr_Stand_free) rfl) e_pr_Stand_free; funD_at z
    p_Stand_rests := (pr_ok (pr_at cp (i := 2) (d := pr_Stand_rests) rfl) e_pr_Stand_rests).2
    F_Stand_rests := let ⟨⟨_, z⟩, _⟩ := pr_ok (pr_at cp (i := 2) (d := pr_Stand_rests) rfl) e_pr_Stand_rests; funD_at z
    f_law_bag := He.glo_ok X G (cd.fact 20 (f := .glo "_law_bag") rfl)
    F_law_bag := let ⟨_, z⟩ := cd.def_ 0 (d := d_law_bag) rfl; funD_at z
    f_law_take := He.glo_ok X G (cd.fact 21 (f := .glo "_law_take") rfl)
    F_law_take := let ⟨_, z⟩ := cd.def_ 1 (d := d_law_take) rfl; funD_at z
    f_law_of := He.glo_ok X G (cd.fact 22 (f := .glo "_law_of") rfl)
    F_law_of := let ⟨_, z⟩ := cd.def_ 2 (d := d_law_of) rfl; funD_at z
    f_law_rows := He.glo_ok X G (cd.fact 23 (f := .glo "_law_rows") rfl)
    F_law_rows := let ⟨_, z⟩ := cd.def_ 3 (d := d_law_rows) rfl; funD_at z
    f_law_frame := He.glo_ok X G (cd.fact 24 (f := .glo "_law_frame") rfl)
    F_law_frame := let ⟨_, z⟩ := cd.def_ 4 (d := d_law_frame) rfl; funD_at z
    f_law_common := He.glo_ok X G (cd.fact 25 (f := .glo "_law_common") rfl)
    F_law_common := let ⟨_, z⟩ := cd.def_ 5 (d := d_law_common) rfl; funD_at z
    f_law_lots := He.glo_ok X G (cd.fact 26 (f := .glo "_law_lots") rfl)
    F_law_lots := let ⟨_, z⟩ := cd.def_ 6 (d := d_law_lots) rfl; funD_at z
    f_law_heavy := He.glo_ok X G (cd.fact 27 (f := .glo "_law_heavy") rfl)
    F_law_heavy := let ⟨_, z⟩ := cd.def_ 7 (d := d_law_heavy) rfl; funD_at z
    F_Sheet_lots := let ⟨_, z⟩ := cd.def_ 8 (d := d_Sheet_lots) rfl; funD_at z
    f_has_divisor := He.glo_ok X G (cd.fact 28 (f := .glo "has_divisor") rfl)
    F_has_divisor := let ⟨_, z⟩ := cd.def_ 9 (d := d_has_divisor) rfl; funD_at z
    f_is_whole := He.glo_ok X G (cd.fact 29 (f := .glo "is_whole") rfl)
    F_is_whole := let ⟨_, z⟩ := cd.def_ 10 (d := d_is_whole) rfl; funD_at z
    f_power_sheets := He.glo_ok X G (cd.fact 30 (f := .glo "power_sheets") rfl)
    F_power_sheets := let ⟨_, z⟩ := cd.def_ 11 (d := d_power_sheets) rfl; funD_at z
    f_is_weight := He.glo_ok X G (cd.fact 31 (f := .glo "is_weight") rfl)
    F_is_weight := let ⟨_, z⟩ := cd.def_ 12 (d := d_is_weight) rfl; funD_at z
    F_Sheet___init__ := let ⟨_, z⟩ := cd.def_ 13 (d := d_Sheet___init__) rfl; funD_at z
    f_is_rising := He.glo_ok X G (cd.fact 32 (f := .glo "is_rising") rfl)
    F_is_rising := let ⟨_, z⟩ := cd.def_ 14 (d := d_is_rising) rfl; funD_at z
    f_are_cells := He.glo_ok X G (cd.fact 33 (f := .glo "are_cells") rfl)
    F_are_cells := let ⟨_, z⟩ := cd.def_ 15 (d := d_are_cells) rfl; funD_at z
    f_number_told := He.glo_ok X G (cd.fact 34 (f := .glo "number_told") rfl)
    F_number_told := let ⟨_, z⟩ := cd.def_ 16 (d := d_number_told) rfl; funD_at z
    f_line_told := He.glo_ok X G (cd.fact 35 (f := .glo "line_told") rfl)
    F_line_told := let ⟨_, z⟩ := cd.def_ 17 (d := d_line_told) rfl; funD_at z
    f_board_told := He.glo_ok X G (cd.fact 36 (f := .glo "board_told") rfl)
    F_board_told := let ⟨_, z⟩ := cd.def_ 18 (d := d_board_told) rfl; funD_at z
    f_sheet_told := He.glo_ok X G (cd.fact 37 (f := .glo "sheet_told") rfl)
    F_sheet_told := let ⟨_, z⟩ := cd.def_ 19 (d := d_sheet_told) rfl; funD_at z
    f_shows_stand := He.glo_ok X G (cd.fact 38 (f := .glo "shows_stand") rfl)
    F_shows_stand := let ⟨_, z⟩ := cd.def_ 20 (d := d_shows_stand) rfl; funD_at z
    f_accepts := He.glo_ok X G (cd.fact 39 (f := .glo "accepts") rfl)
    F_accepts := let ⟨_, z⟩ := cd.def_ 21 (d := d_accepts) rfl; funD_at z
    f_law_judge := He.glo_ok X G (cd.fact 40 (f := .glo "_law_judge") rfl)
    F_law_judge := let ⟨_, z⟩ := cd.def_ 22 (d := d_law_judge) rfl; funD_at z
    f_number_in := He.glo_ok X G (cd.fact 41 (f := .glo "number_in") rfl)
    F_number_in := let ⟨_, z⟩ := cd.def_ 23 (d := d_number_in) rfl; funD_at z
    f_line_in := He.glo_ok X G (cd.fact 42 (f := .glo "line_in") rfl)
    F_line_in := let ⟨_, z⟩ := cd.def_ 24 (d := d_line_in) rfl; funD_at z
    f_lines_in := He.glo_ok X G (cd.fact 43 (f := .glo "lines_in") rfl)
    F_lines_in := let ⟨_, z⟩ := cd.def_ 25 (d := d_lines_in) rfl; funD_at z
    f_board_in := He.glo_ok X G (cd.fact 44 (f := .glo "board_in") rfl)
    F_board_in := let ⟨_, z⟩ := cd.def_ 26 (d := d_board_in) rfl; funD_at z
    F_Board___init__ := let ⟨_, z⟩ := cd.def_ 27 (d := d_Board___init__) rfl; funD_at z
    f_check_board := He.glo_ok X G (cd.fact 45 (f := .glo "check_board") rfl)
    F_check_board := let ⟨_, z⟩ := cd.def_ 28 (d := d_check_board) rfl; funD_at z
    f_is_integer := He.glo_ok X G (cd.fact 46 (f := .glo "is_integer") rfl)
    F_is_integer := let ⟨_, z⟩ := cd.def_ 29 (d := d_is_integer) rfl; funD_at z
    f_is_between := He.glo_ok X G (cd.fact 47 (f := .glo "is_between") rfl)
    F_is_between := let ⟨_, z⟩ := cd.def_ 30 (d := d_is_between) rfl; funD_at z
    f_check_cells := He.glo_ok X G (cd.fact 48 (f := .glo "check_cells") rfl)
    F_check_cells := let ⟨_, z⟩ := cd.def_ 31 (d := d_check_cells) rfl; funD_at z
    F_Stand___init__ := let ⟨_, z⟩ := cd.def_ 32 (d := d_Stand___init__) rfl; funD_at z
    f_law_text := He.glo_ok X G (cd.fact 49 (f := .glo "_law_text") rfl)
    F_law_text := let ⟨_, z⟩ := cd.def_ 33 (d := d_law_text) rfl; funD_at z
    f_law_made := He.glo_ok X G (cd.fact 50 (f := .glo "_law_made") rfl)
    F_law_made := let ⟨_, z⟩ := cd.def_ 34 (d := d_law_made) rfl; funD_at z
    f_law_said := He.glo_ok X G (cd.fact 51 (f := .glo "_law_said") rfl)
    F_law_said := let ⟨_, z⟩ := cd.def_ 35 (d := d_law_said) rfl; funD_at z
    f_is_live := He.glo_ok X G (cd.fact 52 (f := .glo "is_live") rfl)
    F_is_live := let ⟨_, z⟩ := cd.def_ 36 (d := d_is_live) rfl; funD_at z
    f_rest_of := He.glo_ok X G (cd.fact 53 (f := .glo "rest_of") rfl)
    F_rest_of := let ⟨_, z⟩ := cd.def_ 37 (d := d_rest_of) rfl; funD_at z
    f_check_many := He.glo_ok X G (cd.fact 54 (f := .glo "check_many") rfl)
    F_check_many := let ⟨_, z⟩ := cd.def_ 38 (d := d_check_many) rfl; funD_at z
    f_check_stand := He.glo_ok X G (cd.fact 55 (f := .glo "check_stand") rfl)
    F_check_stand := let ⟨_, z⟩ := cd.def_ 39 (d := d_check_stand) rfl; funD_at z
    f_divisor := He.glo_ok X G (cd.fact 56 (f := .glo "divisor") rfl)
    F_divisor := let ⟨_, z⟩ := cd.def_ 40 (d := d_divisor) rfl; funD_at z
    f_reduced := He.glo_ok X G (cd.fact 57 (f := .glo "reduced") rfl)
    F_reduced := let ⟨_, z⟩ := cd.def_ 41 (d := d_reduced) rfl; funD_at z
    f_power := He.glo_ok X G (cd.fact 58 (f := .glo "power_weights") rfl)
    F_power := let ⟨_, z⟩ := cd.def_ 42 (d := d_power) rfl; funD_at z
    f_weight_of := He.glo_ok X G (cd.fact 59 (f := .glo "weight_of") rfl)
    F_weight_of := let ⟨_, z⟩ := cd.def_ 43 (d := d_weight_of) rfl; funD_at z
    f_weight := He.glo_ok X G (cd.fact 60 (f := .glo "weight") rfl)
    F_weight := let ⟨_, z⟩ := cd.def_ 44 (d := d_weight) rfl; funD_at z
    f_law_right := He.glo_ok X G (cd.fact 61 (f := .glo "_law_right") rfl)
    F_law_right := let ⟨_, z⟩ := cd.def_ 45 (d := d_law_right) rfl; funD_at z
    f_law := He.glo_ok X G (cd.fact 62 (f := .glo "law") rfl)
    F_law := let ⟨_, z⟩ := cd.def_ 46 (d := d_law) rfl; funD_at z
    f_Board := He.glo_ok X G (cd.fact 63 (f := .glo "Board") rfl)
    k_Board := k_Board
    m_Board := He.mkr_ok (cd.fact 65 (f := .mkr "Board") rfl)
    f_Stand := He.glo_ok X G (cd.fact 66 (f := .glo "Stand") rfl)
    k_Stand := k_Stand
    m_Stand := He.mkr_ok (cd.fact 68 (f := .mkr "Stand") rfl)
    f_Sheet := He.glo_ok X G (cd.fact 69 (f := .glo "Sheet") rfl)
    k_Sheet := k_Sheet
    m_Sheet := He.mkr_ok (cd.fact 71 (f := .mkr "Sheet") rfl)
    ok := wd_ok (fun q hq => by
      simp only [cl, List.mem_cons, List.not_mem_nil, or_false] at hq
      rcases hq with rfl | rfl | rfl
      · exact k_Board
      · exact k_Stand
      · exact k_Sheet)
    n_Board_many := He.noat_ok (cd.fact 72 (f := .noat "Board" "many") rfl)
    n_Board_rows := He.noat_ok (cd.fact 73 (f := .noat "Board" "rows") rfl)
    n_Board_written := He.noat_ok (cd.fact 74 (f := .noat "Board" "written") rfl)
    n_Sheet_left := He.noat_ok (cd.fact 75 (f := .noat "Sheet" "left") rfl)
    n_Sheet_space := He.noat_ok (cd.fact 76 (f := .noat "Sheet" "space") rfl)
    n_Stand_base := He.noat_ok (cd.fact 77 (f := .noat "Stand" "base") rfl)
    n_Stand_mine := He.noat_ok (cd.fact 78 (f := .noat "Stand" "mine") rfl)
    n_Stand_others := He.noat_ok (cd.fact 79 (f := .noat "Stand" "others") rfl)
    h_Sheet_lots := He.meth_ok (cd.fact 80 (f := .meth "Sheet" "lots") rfl)
    i_Board := isi_of e_i_Board
    i_Stand := isi_of e_i_Stand
    i_bool := isi_of e_i_bool
    i_int := isi_of e_i_int
    i_str := isi_of e_i_str
    i_tuple := isi_of e_i_tuple
    c_DIGITS_names := He.str_ok X G (cd.fact 81 (f := .str "DIGITS_names" "0123456789") rfl)
    c_DIGITS_sheets := He.str_ok X G (cd.fact 82 (f := .str "DIGITS_sheets" "0123456789") rfl)
    c_MOST_CELLS := He.int_ok X G (cd.fact 83 (f := .int "MOST_CELLS" 30) rfl)
    c_MOST_LINES := He.int_ok X G (cd.fact 84 (f := .int "MOST_LINES" 30) rfl)
    c_MOST_MANY := He.int_ok X G (cd.fact 85 (f := .int "MOST_MANY" 9) rfl)
    c_SIZES := He.glo_ok X G (cd.fact 86 (f := .glo "SIZES") rfl)
    d_SIZES := kd_of (c.t.tab 0 (t := ((fun K => He.ga K "SIZES"), ["own", "pairs", "lacks", "weight", "forced", "makes", "holds", "held", "free"])) rfl) e_d_SIZES }
end K54
open PySem PySem.W PySem.Calls PyProof.Rows
set_option maxHeartbeats 0 in
theorem K54.holds_of (pure_law : ∀ ns : List Int, ns.length ≤ 63 → ∃ h', K54.m_law [.arg (ns.map TL.T.int)] [] = .ok (.bl true) h') : PySem.Challenge.rw_pairheld_k54_whole_weights_judged.Holds := by
  w_on; o_law
  refine HandSHeadRun.head_any (r := OpenLaw.row PySem.Challenge.rw_pairheld_k54_whole_weights_judged) (q := view (OpenLaw.row PySem.Challenge.rw_pairheld_k54_whole_weights_judged).prog [104]) (H := K54.hk) (ob := K54.ob) (M := 8000) (loose := K54.lo) (d := HandSHeadRun.topDef (OpenLaw.row PySem.Challenge.rw_pairheld_k54_whole_weights_judged).prog 104) (kwd := []) K54.ob_eq
    (by kernel_rfl) (fun s => by kernel_rfl) K54.run (by kernel_rfl) (by kernel_rfl) (by kernel_rfl) (by rfl) (by first | assumption | decide +kernel) (by decide +kernel) ⟨rfl, rfl, rfl, rfl, rfl, by decide +kernel⟩ ?hw ?hc
  case hw => w_witness2
  case hc =>
    refine TL.walkQ (l := PySem.Challenge.rw_pairheld_k54_whole_weights_judged) (n := 63) (k := 9) (x := "_law_script") rfl (by decide) (by kernel_rfl) ⟨rfl, by decide, by decide⟩ ?_
    rintro w mg fa h ⟨K, KX, c, cp⟩ G named
    have e1 : (HandSHeadRun.topDef (OpenLaw.row PySem.Challenge.rw_pairheld_k54_whole_weights_judged).prog 104).name = ("law" : PySem.Str) := by kernel_rfl
    have g := K54.gs KX G c cp
    have e2 : fa = He.ga K "law" := by
      rw [e1, g.f_law] at named
      cases named
      rfl
    subst e2
    have b := L2.FunD.bindsA (ps := ["_law_script"]) g.F_law fun _ _ _ _ _ _ us hl => match us, hl with | [_], _ => rfl
    exact ⟨K, _, K54.wd w K, K54.m_law, KX, ⟨rfl, fun _ => rfl⟩, fun s v => b s [v] rfl, pure_law, fun base _ _ => K54.ok_law g⟩
theorem PySem.Challenge.cw_pairheld_k54_whole_weights_judged_holds : PySem.Challenge.rw_pairheld_k54_whole_weights_judged.Holds := by
  exact K54.holds_of K54.pure_law
