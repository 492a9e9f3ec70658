import PyProof.Rows.All
import Wide.All
import OpenK.AllK
import Wide.FinOn
import HandS.ForMost
import HandS.Defaults
import HandS.Property
import HandS.Zip
import HandS.Deep
import HandS.IsInst
import HandS.Conv
import HandS.FStr
import HandS.WideBits
import HandS.HeadEnd
import HandS.HeadHook1
import HandS.HeadHook2
import HandS.HeadHook3
import HandS.HeadHook4
import HandS.Head0
import HandS.Head1
import HandS.Head2
import KE.SortData
import KE.SortKeyHeap
import KE.DataFind
import KE.DataCmp
import KE.Datum
import KE.DatumIndex
import KE.KeyNested
import KE.KDictKeyed
import HandS.Lambda
import HandS.EndTab
import HandS.ExcInit
import HandS.TupAny
import HandS.Text
import HandS.Style
import HandS.Star
import KE.KDictWalk
import HandS.MakeKwOnly
import PyProof.ReprRoads
import PyProof.FitsInt
import PyProof.StrLawsRepr
import HandS.TupSets
import HandS.TryOnly
import KE.GoesMore
import HandS.Wide
import KE.KCallOwn
import PyProof.InstNe
import HandS.RaiseMore
import HandS.Small
import PyProof.TupleOfSeq
import KE.GoesNew
import HandS.ExcOwn
import KE.DataMinMax
import KE.KDictSum
import HandS.SetFor
import HandS.Strs
import HandS.DictComp
import HandS.WordsDict
import HandS.More
import HandS.Dict
import PyProof.SumAny
import PyProof.Rows.SeqMore
import KE.KDictDisplayH
import KE.DataAny
import KE.KIndexOf
import HandS.Iter
import HandS.ExcField
import HandS.TryMany
import KE.KEqNest
import KE.KExcInit
import KE.KDictZip
import PyProof.InstEq
import HandS.HotCalls
import HandS.ExcIs
import HandS.ExcValue
import PyProof.StrLawsIn
import PyProof.Rows.StrSplitAre
import PyProof.Rows.StrItems
import PyProof.Rows.StrSplitCount
import PyProof.Rows.RegReprOcc
import PySem.Challenge.RW_pairheld_k01_constants_and_errors
set_option Elab.async false
set_option linter.all false
set_option maxRecDepth 100000
set_option maxHeartbeats 4000000
namespace TL
open PySem PySem.Spec L2
abbrev St := L2.St
def exNm : List (Str × List Str) := [("InvalidText", ["given"]), ("InvalidNumber", ["given"]), ("InvalidName", ["given"]), ("InvalidIndex", ["given"]), ("InvalidClaim", ["given"]), ("InvalidCell", ["given"]), ("InvalidMover", ["given"]), ("UnknownName", ["given"]),
  ("NotABoard", ["given"]), ("NotAStand", ["given"]), ("NotAPattern", ["given"]), ("NotAMatch", ["given"]), ("InvalidCells", ["index"]), ("InvalidPairs", ["index"]), ("NotMutual", ["place"]), ("TooMany", ["number"]), ("IsOver", []), ("Broken", ["index", "told"]), ("InUse", ["index"]), ("NothingToUndo", [])]
def exC (K : PySem.W.Frag) (c : Nat) : Option Addr := (exNm[c]?).map fun q => He.ga K q.1
def exFn (c : Nat) : List Str := match exNm[c]? with
  | some q => q.2
  | none => []
inductive T where
  | non | bl (b : Bool) | int (i : Int) | str (s : Str)
  | tup (ts : List T) | lst (ts : List T)
  | obj (c : Nat) (fs : List T)
  | ref (n : Nat)
  | arg (ts : List T)
  | tpx (ts : List T)
  | exc (a : Addr) (d : Option Addr) (ns : List Str) (c : Nat) (fs : List T)
  /-- an exception that was made -/
  | eob (c : Nat) (fs : List T)
  deriving Inhabited
inductive VO where
  | lst (ts : List T)
  | ins (c : Nat) (fs : List T)
  | dct (kvs : List (T × T))
  | dcT (kvs : List (List Key × T))
  | dcF (kvs : List (T × T))
  | dcN (kvs : List (T × T))
  | tab (q : Str)
  deriving Inhabited
abbrev VH := List VO
inductive Res (α : Type) where
  | ok (a : α) (h : VH)
  | bad
inductive Out where
  | nx (τ : List (Option T)) (h : VH)
  | rt (t : T) (h : VH)
  | bk (τ : List (Option T)) (h : VH)
  | ct (τ : List (Option T)) (h : VH)
  | bad
abbrev TS_ := List (Option T)
abbrev ME := TS_ → VH → Res T
abbrev MA := TS_ → VH → Res (List T)
abbrev MB := TS_ → VH → Res Bool
abbrev MS := TS_ → VH → Out
structure Rh where
  ix : List Addr
  bn : List Addr
def Rh.out (ρ : Rh) (a : Addr) : Prop := a ∉ ρ.ix ∧ a ∉ ρ.bn
def Rh.push (ρ : Rh) (p : Addr) : Rh := ⟨ρ.ix ++ [p], ρ.bn⟩
def Rh.ban (ρ : Rh) (p : Addr) : Rh := ⟨ρ.ix, p :: ρ.bn⟩
structure Wd where
  K : PySem.W.Frag
  cm : Nat → Option Addr
  fn : Nat → List Str
  w : World
  /-- the tables of code objects, by the lambdas' name -/
  tb : Str → Option Addr
def KL (K : PySem.W.Frag) (a : Addr) (xs : List V) : Prop := ∃ (o : Obj) (its : Array Value) (n : Nat), K.lookup a = some o ∧ o.cls = .type "list" ∧ o.dict = none ∧ o.data = .seq its n ∧ its.size ≤ sizeLine ∧ Vals xs its.toList
def KT (K : PySem.W.Frag) (a : Addr) (xs : List V) : Prop := ∃ (o : Obj) (its : Array Value) (n : Nat), K.lookup a = some o ∧ o.cls = .type "tuple" ∧ o.data = .seq its n ∧ its.size ≤ sizeLine ∧ Vals xs its.toList
def LstAt (Y : Wd) (ρ : Rh) (H : Hp) (a : Addr) (xs : List V) : Prop := xs.length ≤ sizeLine ∧ ρ.out a ∧ H a = some (.lst xs)
def ArgAt (Y : Wd) (ρ : Rh) (H : Hp) (a : Addr) (xs : List V) : Prop := xs.length ≤ sizeLine ∧ ((ρ.out a ∧ Rd H a (.lst xs)) ∨ KL Y.K a xs)
def TupAt (Y : Wd) (ρ : Rh) (H : Hp) (a : Addr) (xs : List V) : Prop := xs.length ≤ sizeLine ∧ ((ρ.out a ∧ Rd H a (.tup xs)) ∨ KT Y.K a xs)
def TpxAt (ρ : Rh) (H : Hp) (a : Addr) (xs : List V) : Prop := xs.length ≤ sizeLine ∧ ρ.out a ∧ ∃ o : Obj, o.dict = none ∧ o.cls = .type "tuple" ∧ H a = some (.frz o (.tup xs))
def XdAt (ρ : Rh) (H : Hp) : Option Addr → List (Str × V) → Prop
  | some d, vfs => ρ.out d ∧ H d = some (.xd vfs)
  | none, vfs => vfs = []
theorem XdAt.to {ρ ρ' : Rh} {H H' : Hp} {d : Option Addr} {vfs : List (Str × V)} (h : XdAt ρ H d vfs) (out : ∀ x fs, ρ.out x → H x = some (.xd fs) → ρ'.out x) (hk : ∀ x fs, ρ.out x → H x = some (.xd fs) → H' x = some (.xd fs)) : XdAt ρ' H' d vfs := by
  cases d with
  | none => exact h
  | some d => exact ⟨out _ _ h.1 h.2, hk _ _ h.1 h.2⟩
def EdAt (ρ : Rh) (H : Hp) : Option Addr → List (Str × V) → Prop
  | some d, vfs => ρ.out d ∧ H d = some (exd d vfs)
  | none, vfs => vfs = []
theorem exd_nt {d : Addr} {vfs : List (Str × V)} (ps : Array Value) : exd d vfs ≠ .tbl ps := fun z => by unfold exd at z; cases z
theorem exo_nt {a C : Addr} {d : Option Addr} (ps : Array Value) : exo a C d ≠ .tbl ps := fun z => by unfold exo at z; cases z
theorem EdAt.to {ρ ρ' : Rh} {H H' : Hp} {d : Option Addr} {vfs : List (Str × V)} (h : EdAt ρ H d vfs) (out : ∀ x fs, ρ.out x → H x = some (exd x fs) → ρ'.out x) (hk : ∀ x fs, ρ.out x → H x = some (exd x fs) → H' x = some (exd x fs)) : EdAt ρ' H' d vfs := by
  cases d with
  | none => exact h
  | some d => exact ⟨out _ _ h.1 h.2, hk _ _ h.1 h.2⟩
theorem LstAt.sq {Y : Wd} {ρ : Rh} {H : Hp} {a : Addr} {xs : List V} (h : LstAt Y ρ H a xs) : SqL Y.K H a xs := .inl (.inl h.2.2)
theorem ArgAt.sq {Y : Wd} {ρ : Rh} {H : Hp} {a : Addr} {xs : List V} (h : ArgAt Y ρ H a xs) : SqL Y.K H a xs := h.2.elim (fun z => .inl z.2) .inr
theorem TupAt.sq {Y : Wd} {ρ : Rh} {H : Hp} {a : Addr} {xs : List V} (h : TupAt Y ρ H a xs) : SqT Y.K H a xs := h.2.elim (fun z => .inl z.2) .inr
mutual
inductive Rp (Y : Wd) (ρ : Rh) (H : Hp) : T → V → Prop
  | non : Rp Y ρ H .non .non
  | bl (b : Bool) : Rp Y ρ H (.bl b) (.bl b)
  | int (i : Int) : Rp Y ρ H (.int i) (.int i)
  | str {x : Str} : x.length ≤ 1000000 → Rp Y ρ H (.str x) (.str x)
  | tup {a : Addr} {vs : List V} {ts : List T} : TupAt Y ρ H a vs → Rps Y ρ H ts vs → Rp Y ρ H (.tup ts) (.ref a)
  | lst {a : Addr} {vs : List V} {ts : List T} : LstAt Y ρ H a vs → Rps Y ρ H ts vs → Rp Y ρ H (.lst ts) (.ref a)
  | obj {c : Nat} {a C dx : Addr} {vfs : List (Str × V)} {fs : List T} : Y.cm c = some C → ρ.out a → H a = some (.ins C dx vfs) → vfs.map (·.1) = (Y.fn c).take fs.length → Rps Y ρ H fs (vfs.map (·.2)) → Rp Y ρ H (.obj c fs) (.ref a)
  | ref {n : Nat} {a : Addr} : ρ.ix[n]? = some a → Rp Y ρ H (.ref n) (.ref a)
  | arg {a : Addr} {vs : List V} {ts : List T} : ArgAt Y ρ H a vs → Rps Y ρ H ts vs → Rp Y ρ H (.arg ts) (.ref a)
  | tpx {a : Addr} {vs : List V} {ts : List T} : TpxAt ρ H a vs → Rps Y ρ H ts vs → Rp Y ρ H (.tpx ts) (.ref a)
  | exc {a : Addr} {d : Option Addr} {ns : List Str} {c : Nat} {vfs : List (Str × V)} {fs : List T} : XdAt ρ H d vfs → vfs.map (·.1) = ns → Rps Y ρ H fs (vfs.map (·.2)) → Rp Y ρ H (.exc a d ns c fs) (.ref a)
  | eob {c : Nat} {a C : Addr} {d : Option Addr} {vfs : List (Str × V)} {fs : List T} : exC Y.K c = some C → ρ.out a → H a = some (exo a C d) → EdAt ρ H d vfs → vfs.map (·.1) = (exFn c).take fs.length → Rps Y ρ H fs (vfs.map (·.2)) → Rp Y ρ H (.eob c fs) (.ref a)
inductive Rps (Y : Wd) (ρ : Rh) (H : Hp) : List T → List V → Prop
  | nil : Rps Y ρ H [] []
  | cons {t : T} {v : V} {ts : List T} {vs : List V} : Rp Y ρ H t v → Rps Y ρ H ts vs → Rps Y ρ H (t :: ts) (v :: vs)
end
structure EvR (ρ : Rh) (H : Hp) (ρ' : Rh) (H' : Hp) : Prop where
  more : ∃ m, ρ'.ix = ρ.ix ++ m ∧ ∀ p ∈ m, H p = none
  bnr : ∀ a ∈ ρ'.bn, a ∈ ρ.bn ∨ H a = none
  keep : ∀ b o, H b = some o → b ∉ ρ.ix → (∀ ps, o ≠ .tbl ps) → H' b = some o
  there : ∀ b, H b ≠ none → H' b ≠ none
  fz : ∀ b o u, H b = some (.frz o u) → H' b = some (.frz o u)
structure Ev (ρ : Rh) (H : Hp) (ρ' : Rh) (H' : Hp) : Prop extends EvR ρ H ρ' H' where
  bn : ρ'.bn = ρ.bn
theorem Ev.mk' {ρ ρ' : Rh} {H H' : Hp} (more : ∃ m, ρ'.ix = ρ.ix ++ m ∧ ∀ p ∈ m, H p = none) (bn : ρ'.bn = ρ.bn) (keep : ∀ b o, H b = some o → b ∉ ρ.ix → (∀ ps, o ≠ .tbl ps) → H' b = some o) (there : ∀ b, H b ≠ none → H' b ≠ none) (fz : ∀ b o u, H b = some (.frz o u) → H' b = some (.frz o u)) : Ev ρ H ρ' H' :=
  ⟨⟨more, fun a ha => .inl (bn ▸ ha), keep, there, fz⟩, bn⟩
theorem Ev.refl {ρ : Rh} {H : Hp} : Ev ρ H ρ H := .mk' ⟨[], by simp⟩ rfl (fun _ _ e _ _ => e) (fun _ e => e) (fun _ _ _ e => e)
theorem EvR.nix {ρ ρ' : Rh} {H H' : Hp} (e : EvR ρ H ρ' H') {a : Addr} (h : a ∉ ρ.ix) (ha : H a ≠ none) : a ∉ ρ'.ix := by
  obtain ⟨m, em, hm⟩ := e.more
  intro z
  rw [em] at z
  rcases List.mem_append.mp z with z | z
  · exact h z
  · exact ha (hm a z)
theorem EvR.notin {ρ ρ' : Rh} {H H' : Hp} (e : EvR ρ H ρ' H') {a : Addr} (h : ρ.out a) (ha : H a ≠ none) : ρ'.out a := ⟨e.nix h.1 ha, fun z => (e.bnr a z).elim h.2 ha⟩
theorem EvR.get {ρ ρ' : Rh} {H H' : Hp} (e : EvR ρ H ρ' H') {n : Nat} {a : Addr} (h : ρ.ix[n]? = some a) : ρ'.ix[n]? = some a := by
  obtain ⟨m, em, hm⟩ := e.more
  rw [em, List.getElem?_append_left (List.getElem?_eq_some_iff.mp h).1]
  exact h
theorem EvR.fresh {ρ ρ' : Rh} {H H' : Hp} (e : EvR ρ H ρ' H') {p : Addr} (h : H' p = none) : H p = none := by
  cases q : H p with
  | none => rfl
  | some o => exact absurd h (e.there p (by rw [q]; simp))
theorem EvR.trans {ρ ρ1 ρ2 : Rh} {H H1 H2 : Hp} (a : EvR ρ H ρ1 H1) (b : EvR ρ1 H1 ρ2 H2) : EvR ρ H ρ2 H2 := by
  refine ⟨?_, fun c hc => (b.bnr c hc).elim (a.bnr c) (fun z => .inr (a.fresh z)), fun c o e n nt => b.keep c o (a.keep c o e n nt) (a.nix n (by rw [e]; simp)) nt, fun c e => b.there c (a.there c e), fun c o u e => b.fz c o u (a.fz c o u e)⟩
  obtain ⟨m1, e1, h1⟩ := a.more
  obtain ⟨m2, e2, h2⟩ := b.more
  refine ⟨m1 ++ m2, by rw [e2, e1, List.append_assoc], fun p hp => ?_⟩
  rcases List.mem_append.mp hp with z | z
  · exact h1 p z
  · exact a.fresh (h2 p z)
theorem Ev.trans {ρ ρ1 ρ2 : Rh} {H H1 H2 : Hp} (a : Ev ρ H ρ1 H1) (b : Ev ρ1 H1 ρ2 H2) : Ev ρ H ρ2 H2 := ⟨a.toEvR.trans b.toEvR, b.bn.trans a.bn⟩
theorem EvR.ban {ρ ρ' : Rh} {H H' : Hp} (e : EvR ρ H ρ' H') {p : Addr} (h : H p = none) : EvR ρ H (ρ'.ban p) H' := ⟨e.more, fun a ha => (List.mem_cons.mp ha).elim (fun z => .inr (z ▸ h)) (e.bnr a), e.keep, e.there, e.fz⟩
theorem Ev.new {ρ : Rh} {H : Hp} {p : Addr} {o : HO} (h : H p = none) : Ev ρ H ρ (upd H p o) :=
  .mk' ⟨[], by simp⟩ rfl (fun b u e _ _ => by rw [upd_ne (ne_of_none e h)]; exact e) (fun b e => by
    by_cases z : b = p
    · rw [z, upd_same]; simp
    · rw [upd_ne z]; exact e) (fun b q u e => by rw [upd_ne (ne_of_none e h)]; exact e)
theorem Ev.newρ {ρ : Rh} {H : Hp} {p : Addr} {o : HO} (h : H p = none) : Ev ρ H (ρ.push p) (upd H p o) :=
  .mk' ⟨[p], rfl, fun q hq => by rw [List.mem_singleton.mp hq]; exact h⟩ rfl (Ev.new (ρ := ρ) h).keep (Ev.new (ρ := ρ) h).there (Ev.new (ρ := ρ) h).fz
theorem Ev.write {ρ : Rh} {H : Hp} {p : Addr} {o : HO} (h : p ∈ ρ.ix) (nf : ∀ q u, H p ≠ some (.frz q u)) : Ev ρ H ρ (upd H p o) :=
  .mk' ⟨[], by simp⟩ rfl (fun b u e n _ => by rw [upd_ne (fun z => n (by rw [z]; exact h))]; exact e) (fun b e => by
    by_cases z : b = p
    · rw [z, upd_same]; simp
    · rw [upd_ne z]; exact e) (fun b q u e => by rw [upd_ne (fun z : b = p => nf q u (by rw [← z]; exact e))]; exact e)
theorem Rd.some {H : Hp} {a : Addr} {u : HO} (r : Rd H a u) : H a ≠ none := by
  rcases r with r | ⟨o, r⟩ <;> rw [r] <;> simp
theorem Rd.ev {ρ ρ' : Rh} {H H' : Hp} (e : EvR ρ H ρ' H') {a : Addr} {u : HO} (h : ρ.out a) (r : Rd H a u) (nt : ∀ ps, u ≠ .tbl ps := by intro _ z; cases z) : ρ'.out a ∧ Rd H' a u := by
  refine ⟨e.notin h (Rd.some r), ?_⟩
  rcases r with r | ⟨o, r⟩
  · exact .inl (e.keep _ _ r h.1 nt)
  · exact .inr ⟨o, e.keep _ _ r h.1 (fun _ z => by cases z)⟩
theorem LstAt.ev {Y : Wd} {ρ ρ' : Rh} {H H' : Hp} (e : EvR ρ H ρ' H') {a : Addr} {xs : List V} (h : LstAt Y ρ H a xs) : LstAt Y ρ' H' a xs :=
  ⟨h.1, e.notin h.2.1 (by rw [h.2.2]; simp), e.keep _ _ h.2.2 h.2.1.1 (fun _ z => by cases z)⟩
theorem ArgAt.ev {Y : Wd} {ρ ρ' : Rh} {H H' : Hp} (e : EvR ρ H ρ' H') {a : Addr} {xs : List V} (h : ArgAt Y ρ H a xs) : ArgAt Y ρ' H' a xs :=
  ⟨h.1, h.2.elim (fun z => .inl (Rd.ev e z.1 z.2)) .inr⟩
theorem TupAt.ev {Y : Wd} {ρ ρ' : Rh} {H H' : Hp} (e : EvR ρ H ρ' H') {a : Addr} {xs : List V} (h : TupAt Y ρ H a xs) : TupAt Y ρ' H' a xs :=
  ⟨h.1, h.2.elim (fun z => .inl (Rd.ev e z.1 z.2)) .inr⟩
theorem TpxAt.ev {ρ ρ' : Rh} {H H' : Hp} (e : EvR ρ H ρ' H') {a : Addr} {xs : List V} (h : TpxAt ρ H a xs) : TpxAt ρ' H' a xs := by
  obtain ⟨h1, h2, o, hd, hc, h3⟩ := h
  exact ⟨h1, e.notin h2 (by rw [h3]; simp), o, hd, hc, e.keep _ _ h3 h2.1 (fun _ z => by cases z)⟩
theorem TpxAt.to {ρ ρ' : Rh} {H H' : Hp} {a : Addr} {xs : List V} (h : TpxAt ρ H a xs) (out : ρ.out a → ρ'.out a) (hk : ρ.out a → H a ≠ none → H' a = H a) : TpxAt ρ' H' a xs := by
  obtain ⟨h1, h2, o, hd, hc, h3⟩ := h
  exact ⟨h1, out h2, o, hd, hc, (hk h2 (by rw [h3]; simp)).trans h3⟩
theorem TpxAt.tup {Y : Wd} {ρ : Rh} {H : Hp} {a : Addr} {xs : List V} (h : TpxAt ρ H a xs) : TupAt Y ρ H a xs := by
  obtain ⟨h1, h2, o, hd, hc, h3⟩ := h
  exact ⟨h1, .inl ⟨h2, .inr ⟨o, h3⟩⟩⟩
mutual
theorem Rp.ev {Y : Wd} {ρ ρ' : Rh} {H H' : Hp} (e : EvR ρ H ρ' H') : ∀ {t : T} {v : V}, Rp Y ρ H t v → Rp Y ρ' H' t v
  | _, _, .non => .non
  | _, _, .bl b => .bl b
  | _, _, .int i => .int i
  | _, _, .str h => .str h
  | _, _, .tup h r => .tup (h.ev e) (r.ev e)
  | _, _, .arg h r => .arg (h.ev e) (r.ev e)
  | _, _, .tpx h r => .tpx (h.ev e) (r.ev e)
  | _, _, .exc h nm r => .exc (h.to (fun _ _ o z => e.notin o (by rw [z]; simp)) fun _ _ o z => e.keep _ _ z o.1 (fun _ z => by cases z)) nm (r.ev e)
  | _, _, .eob c n h g nm r => .eob c (e.notin n (by rw [h]; simp)) (e.keep _ _ h n.1 exo_nt) (g.to (fun _ _ o z => e.notin o (by rw [z]; simp)) fun _ _ o z => e.keep _ _ z o.1 exd_nt) nm (r.ev e)
  | _, _, .lst h r => .lst (h.ev e) (r.ev e)
  | _, _, .obj c n h nm r => .obj c (e.notin n (by rw [h]; simp)) (e.keep _ _ h n.1 (fun _ z => by cases z)) nm (r.ev e)
  | _, _, .ref h => .ref (e.get h)
theorem Rps.ev {Y : Wd} {ρ ρ' : Rh} {H H' : Hp} (e : EvR ρ H ρ' H') : ∀ {ts : List T} {vs : List V}, Rps Y ρ H ts vs → Rps Y ρ' H' ts vs
  | _, _, .nil => .nil
  | _, _, .cons a b => .cons (a.ev e) (b.ev e)
end
theorem Rps.length {Y : Wd} {ρ : Rh} {H : Hp} : ∀ {ts : List T} {vs : List V}, Rps Y ρ H ts vs → vs.length = ts.length
  | _, _, .nil => rfl
  | _, _, .cons _ b => by simp [b.length]
theorem Rps.get {Y : Wd} {ρ : Rh} {H : Hp} : ∀ {ts : List T} {vs : List V} {i : Nat} {t : T}, Rps Y ρ H ts vs → ts[i]? = some t → ∃ v, vs[i]? = some v ∧ Rp Y ρ H t v
  | _, _, _, _, .nil, e => by simp at e
  | _, _, 0, _, .cons a _, e => by simp at e; subst e; exact ⟨_, rfl, a⟩
  | _, _, i + 1, _, .cons _ b, e => by simpa using b.get (i := i) (by simpa using e)
theorem Rps.append {Y : Wd} {ρ : Rh} {H : Hp} : ∀ {ts us : List T} {vs ws : List V}, Rps Y ρ H ts vs → Rps Y ρ H us ws → Rps Y ρ H (ts ++ us) (vs ++ ws)
  | _, _, _, _, .nil, b => b
  | _, _, _, _, .cons a c, b => .cons a (c.append b)
theorem Rps.take {Y : Wd} {ρ : Rh} {H : Hp} (n : Nat) : ∀ {ts : List T} {vs : List V}, Rps Y ρ H ts vs → Rps Y ρ H (ts.take n) (vs.take n)
  | _, _, .nil => by simp; exact .nil
  | _, _, .cons a b => by
    cases n with
    | zero => exact .nil
    | succ n => exact .cons a (b.take n)
theorem Rps.drop {Y : Wd} {ρ : Rh} {H : Hp} (n : Nat) : ∀ {ts : List T} {vs : List V}, Rps Y ρ H ts vs → Rps Y ρ H (ts.drop n) (vs.drop n)
  | _, _, .nil => by simp; exact .nil
  | _, _, .cons a b => by
    cases n with
    | zero => exact .cons a b
    | succ n => exact b.drop n
theorem Rps.set {Y : Wd} {ρ : Rh} {H : Hp} {t : T} {v : V} (r : Rp Y ρ H t v) : ∀ {ts : List T} {vs : List V} (i : Nat), Rps Y ρ H ts vs → Rps Y ρ H (ts.set i t) (vs.set i v)
  | _, _, _, .nil => .nil
  | _, _, 0, .cons _ b => .cons r b
  | _, _, i + 1, .cons a b => .cons a (Rps.set r i b)
theorem Rps.snoc {Y : Wd} {ρ : Rh} {H : Hp} {ts : List T} {vs : List V} {t : T} {v : V} (a : Rps Y ρ H ts vs) (b : Rp Y ρ H t v) : Rps Y ρ H (ts ++ [t]) (vs ++ [v]) := a.append (.cons b .nil)
def nkT : T → Option NestedKey
  | .non => some .none
  | .bl b => some (.num (if b = true then 1 else 0))
  | .int i => some (.num i)
  | .str x => some (.text x)
  | .tup ts => (nkTs ts).map .tup
  | _ => none
where nkTs : List T → Option (List NestedKey)
  | [] => some []
  | t :: ts => match nkT t, nkTs ts with
    | some k, some ks => some (k :: ks)
    | _, _ => none
def NestObj (w : World) (a : Addr) (xs : List (NestedKey × Addr × V)) (h : Heap) : Prop := xs.length ≤ sizeLine ∧ (a == sysModules) = false ∧ ∃ ys : List (NestedKey × Addr × Value), Paired (fun (p : NestedKey × Addr × V) (q : NestedKey × Addr × Value) => p.1 = q.1 ∧ p.2.1 = q.2.1 ∧ RelV p.2.2 q.2.2) xs ys ∧
  ∃ o es ep, h.get? a = some o ∧ o.ExactDict ∧ o.data = .dict es ep ∧ es.toList = ys.map (fun y => ({ hash := y.1.hash w, key := .ref y.2.1, val := y.2.2 } : DictEntry)) ∧ (ys.map (·.1)).Nodup
def CdAt (ρ : Rh) (H : Hp) (q : Str) (cv : Value) : Prop := ∃ c, cv = .ref c ∧ ρ.out c ∧ H c = some (LamX.CodeO c q)
def TbAt (ρ : Rh) (H : Hp) (a : Addr) (q : Str) : Prop := ∃ ps : Array Value, H a = some (.tbl ps) ∧ TriplesOk ps.toList ∧ ∀ (pos : Pos) (cv : Value), codeAmong pos ps.toList = some cv → CdAt ρ H q cv
theorem TbAt.to {ρ ρ' : Rh} {H H' : Hp} {a a' : Addr} {q : Str} (t : TbAt ρ H a q) (s : H' a' = H a) (k : ∀ c, ρ.out c → H c = some (LamX.CodeO c q) → ρ'.out c ∧ H' c = some (LamX.CodeO c q)) : TbAt ρ' H' a' q := by
  obtain ⟨ps, h1, h2, h3⟩ := t
  refine ⟨ps, s.trans h1, h2, fun pos cv hc => ?_⟩
  obtain ⟨c, e, o, hc⟩ := h3 pos cv hc
  obtain ⟨o2, h⟩ := k c o hc
  exact ⟨c, e, o2, h⟩
def OR (Y : Wd) (ρ : Rh) (H : Hp) (a : Addr) : VO → Prop
  | .lst ts => ∃ vs, H a = some (.lst vs) ∧ vs.length ≤ sizeLine ∧ Rps Y ρ H ts vs
  | .ins c fs => ∃ C dx vfs, Y.cm c = some C ∧ H a = some (.ins C dx vfs) ∧ vfs.map (·.1) = (Y.fn c).take fs.length ∧ Rps Y ρ H fs (vfs.map (·.2))
  | .dct kvs => ∃ vkvs : List (Key × V), H a = some (.dK vkvs) ∧ Rps Y ρ H (kvs.map (·.1)) (vkvs.map fun q => kV q.1) ∧ Rps Y ρ H (kvs.map (·.2)) (vkvs.map (·.2))
  | .dcT kvs => ∃ vkvs : List (List Key × V), H a = some (.dT vkvs) ∧ vkvs.map (·.1) = kvs.map (·.1) ∧ Rps Y ρ H (kvs.map (·.2)) (vkvs.map (·.2))
  | .dcF kvs => ∃ (z : Obj) (vkvs : List (Key × V)), H a = some (.frz z (.dK vkvs)) ∧ Rps Y ρ H (kvs.map (·.1)) (vkvs.map fun q => kV q.1) ∧ Rps Y ρ H (kvs.map (·.2)) (vkvs.map (·.2))
  | .dcN kvs => ∃ xs : List (NestedKey × Addr × V), H a = some (.ext (NestObj Y.w a xs)) ∧ (nkT.nkTs (kvs.map (·.1)) = some (xs.map (·.1)) ∧ ∀ x ∈ xs, x.1.depth ≤ 8) ∧ Rps Y ρ H (kvs.map (·.1)) (xs.map fun x => V.ref x.2.1) ∧ Rps Y ρ H (kvs.map (·.2)) (xs.map fun x => x.2.2)
  | .tab q => Y.tb q = some a ∧ TbAt ρ H a q
structure HR (Y : Wd) (ρ : Rh) (H : Hp) (h : VH) : Prop where
  len : ρ.ix.length = h.length
  nd : ρ.ix.Nodup
  bt : ∀ a ∈ ρ.bn, H a ≠ none ∧ a ∉ ρ.ix
  bl : ∀ a ∈ ρ.bn, ∀ xs, H a ≠ some (.tup xs)
  at_ : ∀ (n : Nat) (o : VO) (a : Addr), h[n]? = some o → ρ.ix[n]? = some a → OR Y ρ H a o
  /-- the tables of code objects stand beside the small heap -/
  tb : ∀ (q : Str) (a : Addr), Y.tb q = some a → ρ.out a ∧ TbAt ρ H a q
theorem TbAt.some {ρ : Rh} {H : Hp} {a : Addr} {q : Str} (t : TbAt ρ H a q) : H a ≠ none := by
  obtain ⟨ps, e, _⟩ := t
  rw [e]; simp
theorem HR.tbTo {Y : Wd} {ρ ρ' : Rh} {H H' : Hp} {h : VH} (r : HR Y ρ H h) (out : ∀ c, ρ.out c → H c ≠ none → ρ'.out c) (same : ∀ c, ρ.out c → H c ≠ none → H' c = H c) (q : Str) (a : Addr) (e : Y.tb q = some a) : ρ'.out a ∧ TbAt ρ' H' a q := by
  obtain ⟨o, t⟩ := r.tb q a e
  refine ⟨out a o t.some, t.to (same a o t.some) fun c oc hc => ?_⟩
  have n : H c ≠ none := by rw [hc]; simp
  exact ⟨out c oc n, (same c oc n).trans hc⟩
theorem OR.same {Y : Wd} {ρ ρ' : Rh} {H H' : Hp} (e : EvR ρ H ρ' H') {a : Addr} {o : VO} (s : H' a = H a) (r : OR Y ρ H a o) : OR Y ρ' H' a o := by
  cases o with
  | lst ts => obtain ⟨vs, h1, hz, h2⟩ := r; exact ⟨vs, s.trans h1, hz, h2.ev e⟩
  | ins c fs => obtain ⟨C, dx, vfs, hc, h1, hn, h2⟩ := r; exact ⟨C, dx, vfs, hc, s.trans h1, hn, h2.ev e⟩
  | dct kvs => obtain ⟨vk, h1, h2, h3⟩ := r; exact ⟨vk, s.trans h1, h2.ev e, h3.ev e⟩
  | dcT kvs => obtain ⟨vk, h1, h2, h3⟩ := r; exact ⟨vk, s.trans h1, h2, h3.ev e⟩
  | dcF kvs => obtain ⟨z, vk, h1, h2, h3⟩ := r; exact ⟨z, vk, s.trans h1, h2.ev e, h3.ev e⟩
  | dcN kvs => obtain ⟨xs, h1, h0, h2, h3⟩ := r; exact ⟨xs, s.trans h1, h0, h2.ev e, h3.ev e⟩
  | tab q => exact ⟨r.1, TbAt.to r.2 s fun c o z => ⟨e.notin o (by rw [z]; simp), e.keep _ _ z o.1 (LamX.codeO_ne ·)⟩⟩
theorem OR.some {Y : Wd} {ρ : Rh} {H : Hp} {a : Addr} {o : VO} (r : OR Y ρ H a o) : H a ≠ none := by
  cases o with
  | lst ts => obtain ⟨vs, h1, h2⟩ := r; rw [h1]; simp
  | ins c fs => obtain ⟨C, dx, vfs, hc, h1, hn, h2⟩ := r; rw [h1]; simp
  | dct kvs => obtain ⟨vk, h1, h2, h3⟩ := r; rw [h1]; simp
  | dcT kvs => obtain ⟨vk, h1, h2, h3⟩ := r; rw [h1]; simp
  | dcF kvs => obtain ⟨z, vk, h1, h2, h3⟩ := r; rw [h1]; simp
  | dcN kvs => obtain ⟨xs, h1, _⟩ := r; rw [h1]; simp
  | tab q => obtain ⟨_, ps, h1, _⟩ := r; rw [h1]; simp
theorem HR.there {Y : Wd} {ρ : Rh} {H : Hp} {h : VH} (r : HR Y ρ H h) {a : Addr} (m : a ∈ ρ.ix) : H a ≠ none := by
  obtain ⟨n, hn, e⟩ := List.getElem_of_mem m
  have hh : n < h.length := by rw [← r.len]; exact hn
  exact (r.at_ n h[n] a (List.getElem?_eq_getElem hh) (by rw [List.getElem?_eq_getElem hn, e])).some
theorem HR.outof {Y : Wd} {ρ : Rh} {H : Hp} {h : VH} (r : HR Y ρ H h) {a : Addr} (m : H a = none) : ρ.out a := ⟨fun z => r.there z m, fun z => (r.bt a z).1 m⟩
theorem HR.grow {Y : Wd} {ρ : Rh} {H H' : Hp} {h : VH} (r : HR Y ρ H h) (k : ∀ b o, H b = some o → H' b = some o) : HR Y ρ H' h := by
  have th : ∀ b, H b ≠ none → H' b ≠ none := fun b z => by
    cases q : H b with
    | none => exact absurd q z
    | some o => rw [k b o q]; simp
  have e : EvR ρ H ρ H' := ⟨⟨[], by simp⟩, fun a ha => .inl ha, fun b o z _ _ => k b o z, th, fun b q u z => k b _ z⟩
  refine ⟨r.len, r.nd, fun a ha => ⟨th a (r.bt a ha).1, (r.bt a ha).2⟩, fun a ha xs z => ?_, fun n o a h1 h2 => (r.at_ n o a h1 h2).same e ?_, r.tbTo (fun _ o _ => o) fun c _ n => ?_⟩
  rotate_right
  · cases q : H c with
    | none => exact absurd q n
    | some o => exact k c o q
  · cases q : H a with
    | none => exact (r.bt a ha).1 q
    | some o =>
      rw [k a o q] at z
      cases z
      exact r.bl a ha xs q
  have z := r.there (List.mem_of_getElem? h2)
  cases q : H a with
  | none => exact absurd q z
  | some o => rw [k a o q]
theorem HR.new {Y : Wd} {ρ : Rh} {H : Hp} {h : VH} (r : HR Y ρ H h) {p : Addr} {o : HO} (hp : H p = none) : HR Y ρ (upd H p o) h := r.grow fun b u e => by rw [upd_ne (ne_of_none e hp)]; exact e
theorem HR.push {Y : Wd} {ρ : Rh} {H : Hp} {h : VH} (r : HR Y ρ H h) {p : Addr} {o : HO} {vo : VO} (hp : H p = none) (ho : OR Y (ρ.push p) (upd H p o) p vo) : HR Y (ρ.push p) (upd H p o) (h ++ [vo]) := by
  obtain ⟨np, nb⟩ := r.outof hp
  refine ⟨by simp [Rh.push, r.len], ?_, fun a ha => ?_, fun a ha xs z => r.bl a ha xs (by rw [upd_ne (fun e => nb (by rw [← e]; exact ha))] at z; exact z), fun n o' a h1 h2 => ?_, r.tbTo (fun c o n => ⟨fun z => (List.mem_append.mp (show c ∈ ρ.ix ++ [p] from z)).elim o.1 fun y => n ((List.mem_singleton.mp y).symm ▸ hp), o.2⟩) fun c _ n => upd_ne fun z => n (z.symm ▸ hp)⟩
  · show (ρ.ix ++ [p]).Nodup
    rw [List.nodup_append]
    exact ⟨r.nd, by simp, fun a ha b hb z => by rw [List.mem_singleton.mp hb] at z; exact np (z ▸ ha)⟩
  · have hne : a ≠ p := fun z => nb (by rw [← z]; exact ha)
    refine ⟨by rw [upd_ne hne]; exact (r.bt a ha).1, fun z => ?_⟩
    rcases List.mem_append.mp (show a ∈ ρ.ix ++ [p] from z) with z | z
    · exact (r.bt a ha).2 z
    · exact hne (List.mem_singleton.mp z)
  · have h2 : (ρ.ix ++ [p])[n]? = some a := h2
    by_cases hn : n < h.length
    · rw [List.getElem?_append_left hn] at h1
      rw [List.getElem?_append_left (by rw [r.len]; exact hn)] at h2
      refine (r.at_ n o' a h1 h2).same (Ev.newρ hp).toEvR ?_
      exact upd_ne (fun z => np (by rw [← z]; exact List.mem_of_getElem? h2))
    · have e : n = h.length := by
        have := (List.getElem?_eq_some_iff.mp h1).1
        simp at this; omega
      subst e
      rw [List.getElem?_append_right (Nat.le_refl _)] at h1
      rw [List.getElem?_append_right (by rw [r.len]; exact Nat.le_refl _), r.len] at h2
      simp at h1 h2
      subst h1 h2
      exact ho
theorem HR.write {Y : Wd} {ρ : Rh} {H : Hp} {h : VH} (r : HR Y ρ H h) {n : Nat} {p : Addr} {o : HO} {vo : VO} (hp : ρ.ix[n]? = some p) (nf : ∀ q u, H p ≠ some (.frz q u)) (ho : OR Y ρ (upd H p o) p vo) : HR Y ρ (upd H p o) (h.set n vo) := by
  have mp := List.mem_of_getElem? hp
  refine ⟨by simp [r.len], r.nd, fun a ha => ⟨(Ev.write (o := o) mp nf).there a (r.bt a ha).1, (r.bt a ha).2⟩, fun a ha xs z => r.bl a ha xs (by rw [upd_ne (fun e => (r.bt a ha).2 (by rw [e]; exact mp))] at z; exact z), fun k o' a h1 h2 => ?_, r.tbTo (fun _ o _ => o) fun c o _ => upd_ne fun z => o.1 (z ▸ mp)⟩
  by_cases hk : k = n
  · subst hk
    have : k < h.length := by
      have := (List.getElem?_eq_some_iff.mp h1).1
      simpa using this
    rw [List.getElem?_set_self this] at h1
    cases h1
    rw [hp] at h2; cases h2
    exact ho
  · rw [List.getElem?_set_ne (Ne.symm hk)] at h1
    refine (r.at_ k o' a h1 h2).same (Ev.write mp nf).toEvR ?_
    refine upd_ne fun z => hk ?_
    subst z
    obtain ⟨a1, e1⟩ := List.getElem?_eq_some_iff.mp hp
    obtain ⟨a2, e2⟩ := List.getElem?_eq_some_iff.mp h2
    exact (List.getElem_inj r.nd).mp (e2.trans e1.symm)
theorem Rh.out_unban {ρ : Rh} {p a : Addr} (h : (ρ.ban p).out a) : ρ.out a := ⟨h.1, fun z => h.2 (List.mem_cons_of_mem _ z)⟩
mutual
theorem Rp.unban {Y : Wd} {ρ : Rh} {H : Hp} {p : Addr} : ∀ {t : T} {v : V}, Rp Y (ρ.ban p) H t v → Rp Y ρ H t v
  | _, _, .non => .non
  | _, _, .bl b => .bl b
  | _, _, .int i => .int i
  | _, _, .str h => .str h
  | _, _, .tup h r => .tup ⟨h.1, h.2.elim (fun z => .inl ⟨Rh.out_unban z.1, z.2⟩) .inr⟩ r.unban
  | _, _, .arg h r => .arg ⟨h.1, h.2.elim (fun z => .inl ⟨Rh.out_unban z.1, z.2⟩) .inr⟩ r.unban
  | _, _, .tpx h r => .tpx (h.to Rh.out_unban fun _ _ => rfl) r.unban
  | _, _, .exc h nm r => .exc (h.to (fun _ _ o _ => Rh.out_unban o) fun _ _ _ z => z) nm r.unban
  | _, _, .eob c n h g nm r => .eob c (Rh.out_unban n) h (g.to (fun _ _ o _ => Rh.out_unban o) fun _ _ _ z => z) nm r.unban
  | _, _, .lst h r => .lst ⟨h.1, Rh.out_unban h.2.1, h.2.2⟩ r.unban
  | _, _, .obj c n h nm r => .obj c (Rh.out_unban n) h nm r.unban
  | _, _, .ref h => .ref h
theorem Rps.unban {Y : Wd} {ρ : Rh} {H : Hp} {p : Addr} : ∀ {ts : List T} {vs : List V}, Rps Y (ρ.ban p) H ts vs → Rps Y ρ H ts vs
  | _, _, .nil => .nil
  | _, _, .cons a b => .cons a.unban b.unban
end
theorem OR.unban {Y : Wd} {ρ : Rh} {H : Hp} {p a : Addr} {o : VO} (r : OR Y (ρ.ban p) H a o) : OR Y ρ H a o := by
  cases o with
  | lst ts => obtain ⟨vs, h1, hz, h2⟩ := r; exact ⟨vs, h1, hz, h2.unban⟩
  | ins c fs => obtain ⟨C, dx, vfs, hc, h1, hn, h2⟩ := r; exact ⟨C, dx, vfs, hc, h1, hn, h2.unban⟩
  | dct kvs => obtain ⟨vk, h1, h2, h3⟩ := r; exact ⟨vk, h1, h2.unban, h3.unban⟩
  | dcT kvs => obtain ⟨vk, h1, h2, h3⟩ := r; exact ⟨vk, h1, h2, h3.unban⟩
  | dcF kvs => obtain ⟨z, vk, h1, h2, h3⟩ := r; exact ⟨z, vk, h1, h2.unban, h3.unban⟩
  | dcN kvs => obtain ⟨xs, h1, h0, h2, h3⟩ := r; exact ⟨xs, h1, h0, h2.unban, h3.unban⟩
  | tab q => exact ⟨r.1, TbAt.to r.2 rfl fun c o z => ⟨Rh.out_unban o, z⟩⟩
theorem HR.unban {Y : Wd} {ρ : Rh} {H : Hp} {h : VH} {p : Addr} (r : HR Y (ρ.ban p) H h) : HR Y ρ H h := ⟨r.len, r.nd, fun a ha => r.bt a (List.mem_cons_of_mem _ ha), fun a ha => r.bl a (List.mem_cons_of_mem _ ha), fun n o a h1 h2 => (r.at_ n o a h1 h2).unban, r.tbTo (fun _ o _ => Rh.out_unban o) fun _ _ _ => rfl⟩
theorem out_ban {ρ : Rh} {H : Hp} {p a : Addr} (hp : H p = none) (ha : H a ≠ none) (h : ρ.out a) : (ρ.ban p).out a := ⟨h.1, fun z => by
  rcases List.mem_cons.mp z with z | z
  · exact ha (z ▸ hp)
  · exact h.2 z⟩
mutual
theorem Rp.ban {Y : Wd} {ρ : Rh} {H : Hp} {p : Addr} (hp : H p = none) : ∀ {t : T} {v : V}, Rp Y ρ H t v → Rp Y (ρ.ban p) H t v
  | _, _, .non => .non
  | _, _, .bl b => .bl b
  | _, _, .int i => .int i
  | _, _, .str h => .str h
  | _, _, .tup h r => .tup ⟨h.1, h.2.elim (fun z => .inl ⟨out_ban hp (Rd.some z.2) z.1, z.2⟩) .inr⟩ (r.ban hp)
  | _, _, .arg h r => .arg ⟨h.1, h.2.elim (fun z => .inl ⟨out_ban hp (Rd.some z.2) z.1, z.2⟩) .inr⟩ (r.ban hp)
  | _, _, .tpx ⟨l, g, o, hd, hc, h⟩ r => .tpx ⟨l, out_ban hp (by rw [h]; simp) g, o, hd, hc, h⟩ (r.ban hp)
  | _, _, .exc h nm r => .exc (h.to (fun _ _ o z => out_ban hp (by rw [z]; simp) o) fun _ _ _ z => z) nm (r.ban hp)
  | _, _, .eob c n h g nm r => .eob c (out_ban hp (by rw [h]; simp) n) h (g.to (fun _ _ o z => out_ban hp (by rw [z]; simp) o) fun _ _ _ z => z) nm (r.ban hp)
  | _, _, .lst h r => .lst ⟨h.1, out_ban hp (by rw [h.2.2]; simp) h.2.1, h.2.2⟩ (r.ban hp)
  | _, _, .obj c n h nm r => .obj c (out_ban hp (by rw [h]; simp) n) h nm (r.ban hp)
  | _, _, .ref h => .ref h
theorem Rps.ban {Y : Wd} {ρ : Rh} {H : Hp} {p : Addr} (hp : H p = none) : ∀ {ts : List T} {vs : List V}, Rps Y ρ H ts vs → Rps Y (ρ.ban p) H ts vs
  | _, _, .nil => .nil
  | _, _, .cons a b => .cons (a.ban hp) (b.ban hp)
end
theorem OR.ban {Y : Wd} {ρ : Rh} {H : Hp} {p a : Addr} (hp : H p = none) {o : VO} (r : OR Y ρ H a o) : OR Y (ρ.ban p) H a o := by
  cases o with
  | lst ts => obtain ⟨vs, h1, hz, h2⟩ := r; exact ⟨vs, h1, hz, h2.ban hp⟩
  | ins c fs => obtain ⟨C, dx, vfs, hc, h1, hn, h2⟩ := r; exact ⟨C, dx, vfs, hc, h1, hn, h2.ban hp⟩
  | dct kvs => obtain ⟨vk, h1, h2, h3⟩ := r; exact ⟨vk, h1, h2.ban hp, h3.ban hp⟩
  | dcT kvs => obtain ⟨vk, h1, h2, h3⟩ := r; exact ⟨vk, h1, h2, h3.ban hp⟩
  | dcF kvs => obtain ⟨z, vk, h1, h2, h3⟩ := r; exact ⟨z, vk, h1, h2.ban hp, h3.ban hp⟩
  | dcN kvs => obtain ⟨xs, h1, h0, h2, h3⟩ := r; exact ⟨xs, h1, h0, h2.ban hp, h3.ban hp⟩
  | tab q => exact ⟨r.1, TbAt.to r.2 rfl fun c o z => ⟨out_ban hp (by rw [z]; simp) o, z⟩⟩
theorem out_ne {ρ : Rh} {p a : Addr} (hp : p ∈ ρ.bn) (h : ρ.out a) : a ≠ p := fun z => h.2 (z ▸ hp)
theorem Rd.updb {ρ : Rh} {H : Hp} {p a : Addr} {o u : HO} (hp : p ∈ ρ.bn) (h : ρ.out a) (r : Rd H a u) : Rd (upd H p o) a u := by
  rcases r with r | ⟨q, r⟩
  · exact .inl (by rw [upd_ne (out_ne hp h)]; exact r)
  · exact .inr ⟨q, by rw [upd_ne (out_ne hp h)]; exact r⟩
mutual
theorem Rp.updb {Y : Wd} {ρ : Rh} {H : Hp} {p : Addr} {o : HO} (hp : p ∈ ρ.bn) : ∀ {t : T} {v : V}, Rp Y ρ H t v → Rp Y ρ (upd H p o) t v
  | _, _, .non => .non
  | _, _, .bl b => .bl b
  | _, _, .int i => .int i
  | _, _, .str h => .str h
  | _, _, .tup h r => .tup ⟨h.1, h.2.elim (fun z => .inl ⟨z.1, Rd.updb hp z.1 z.2⟩) .inr⟩ (r.updb hp)
  | _, _, .arg h r => .arg ⟨h.1, h.2.elim (fun z => .inl ⟨z.1, Rd.updb hp z.1 z.2⟩) .inr⟩ (r.updb hp)
  | _, _, .tpx h r => .tpx (h.to id fun z _ => upd_ne (out_ne hp z)) (r.updb hp)
  | _, _, .exc h nm r => .exc (h.to (fun _ _ o _ => o) fun _ _ o z => (upd_ne (out_ne hp o)).trans z) nm (r.updb hp)
  | _, _, .eob c n h g nm r => .eob c n (by rw [upd_ne (out_ne hp n)]; exact h) (g.to (fun _ _ o _ => o) fun _ _ o z => (upd_ne (out_ne hp o)).trans z) nm (r.updb hp)
  | _, _, .lst h r => .lst ⟨h.1, h.2.1, by rw [upd_ne (out_ne hp h.2.1)]; exact h.2.2⟩ (r.updb hp)
  | _, _, .obj c n h nm r => .obj c n (by rw [upd_ne (out_ne hp n)]; exact h) nm (r.updb hp)
  | _, _, .ref h => .ref h
theorem Rps.updb {Y : Wd} {ρ : Rh} {H : Hp} {p : Addr} {o : HO} (hp : p ∈ ρ.bn) : ∀ {ts : List T} {vs : List V}, Rps Y ρ H ts vs → Rps Y ρ (upd H p o) ts vs
  | _, _, .nil => .nil
  | _, _, .cons a b => .cons (a.updb hp) (b.updb hp)
end
theorem HR.updb {Y : Wd} {ρ : Rh} {H : Hp} {h : VH} {p : Addr} {o : HO} (hp : p ∈ ρ.bn) (r : HR Y ρ H h) (nt : ∀ xs, o ≠ .tup xs := by intro xs z; cases z) : HR Y ρ (upd H p o) h := by
  refine ⟨r.len, r.nd, fun a ha => ⟨?_, (r.bt a ha).2⟩, fun a ha xs q => ?_, fun n vo a h1 h2 => ?_, r.tbTo (fun _ o _ => o) fun c o _ => upd_ne (out_ne hp o)⟩
  · by_cases z : a = p
    · rw [z, upd_same]; simp
    · rw [upd_ne z]; exact (r.bt a ha).1
  · by_cases z : a = p
    · rw [z, upd_same] at q
      exact nt xs (Option.some.inj q)
    · rw [upd_ne z] at q
      exact r.bl a ha xs q
  · have ne : a ≠ p := fun z => (r.bt p hp).2 (by rw [← z]; exact List.mem_of_getElem? h2)
    have q := r.at_ n vo a h1 h2
    cases vo with
    | lst ts => obtain ⟨vs, h1, hz, h2⟩ := q; exact ⟨vs, by rw [upd_ne ne]; exact h1, hz, h2.updb hp⟩
    | ins c fs => obtain ⟨C, dx, vfs, hc, h1, hn, h2⟩ := q; exact ⟨C, dx, vfs, hc, by rw [upd_ne ne]; exact h1, hn, h2.updb hp⟩
    | dct kvs => obtain ⟨vk, h1, h2, h3⟩ := q; exact ⟨vk, by rw [upd_ne ne]; exact h1, h2.updb hp, h3.updb hp⟩
    | dcT kvs => obtain ⟨vk, h1, h2, h3⟩ := q; exact ⟨vk, by rw [upd_ne ne]; exact h1, h2, h3.updb hp⟩
    | dcF kvs => obtain ⟨z, vk, h1, h2, h3⟩ := q; exact ⟨z, vk, by rw [upd_ne ne]; exact h1, h2.updb hp, h3.updb hp⟩
    | dcN kvs => obtain ⟨xs, h1, h0, h2, h3⟩ := q; exact ⟨xs, by rw [upd_ne ne]; exact h1, h0, h2.updb hp, h3.updb hp⟩
    | tab nm => exact ⟨q.1, TbAt.to q.2 (upd_ne ne) fun c o z => ⟨o, by rw [upd_ne (out_ne hp o)]; exact z⟩⟩
theorem HR.begin {Y : Wd} {ρ : Rh} {H : Hp} {h : VH} {p : Addr} {o : HO} (hp : H p = none) (r : HR Y ρ H h) (nt : ∀ xs, o ≠ .tup xs := by intro xs z; cases z) : HR Y (ρ.ban p) (upd H p o) h := by
  have r2 : HR Y ρ (upd H p o) h := r.new hp
  refine ⟨r2.len, r2.nd, fun a ha => ?_, fun a ha xs q => ?_, fun n vo a h1 h2 => ?_, r.tbTo (fun c o n => out_ban hp n o) fun c _ n => upd_ne fun z => n (z.symm ▸ hp)⟩
  · rcases List.mem_cons.mp ha with z | z
    · rw [z, upd_same]
      exact ⟨by simp, (r.outof hp).1⟩
    · exact r2.bt a z
  · rcases List.mem_cons.mp ha with z | z
    · rw [z, upd_same] at q
      exact nt xs (Option.some.inj q)
    · exact r2.bl a z xs q
  · have ne : a ≠ p := fun z => (r.outof hp).1 (by rw [← z]; exact List.mem_of_getElem? h2)
    have q := (r.at_ n vo a h1 h2).ban hp
    have mb : p ∈ (ρ.ban p).bn := List.mem_cons_self
    cases vo with
    | lst ts => obtain ⟨vs, h1, hz, h2⟩ := q; exact ⟨vs, by rw [upd_ne ne]; exact h1, hz, h2.updb mb⟩
    | ins c fs => obtain ⟨C, dx, vfs, hc, h1, hn, h2⟩ := q; exact ⟨C, dx, vfs, hc, by rw [upd_ne ne]; exact h1, hn, h2.updb mb⟩
    | dct kvs => obtain ⟨vk, h1, h2, h3⟩ := q; exact ⟨vk, by rw [upd_ne ne]; exact h1, h2.updb mb, h3.updb mb⟩
    | dcT kvs => obtain ⟨vk, h1, h2, h3⟩ := q; exact ⟨vk, by rw [upd_ne ne]; exact h1, h2, h3.updb mb⟩
    | dcF kvs => obtain ⟨z, vk, h1, h2, h3⟩ := q; exact ⟨z, vk, by rw [upd_ne ne]; exact h1, h2.updb mb, h3.updb mb⟩
    | dcN kvs => obtain ⟨xs, h1, h0, h2, h3⟩ := q; exact ⟨xs, by rw [upd_ne ne]; exact h1, h0, h2.updb mb, h3.updb mb⟩
    | tab nm => exact ⟨q.1, TbAt.to q.2 (upd_ne ne) fun c o z => ⟨o, by rw [upd_ne (out_ne mb o)]; exact z⟩⟩
theorem Rh.out_push {ρ : Rh} {p a : Addr} (z : (ρ.ban p).out a) : (ρ.push p).out a := ⟨fun zz => by
  rcases List.mem_append.mp (show a ∈ ρ.ix ++ [p] from zz) with y | y
  · exact z.1 y
  · exact z.2 (by rw [List.mem_singleton.mp y]; exact List.mem_cons_self), fun zz => z.2 (List.mem_cons_of_mem _ zz)⟩
mutual
theorem Rp.topush {Y : Wd} {ρ : Rh} {H : Hp} {p : Addr} : ∀ {t : T} {v : V}, Rp Y (ρ.ban p) H t v → Rp Y (ρ.push p) H t v
  | _, _, .non => .non
  | _, _, .bl b => .bl b
  | _, _, .int i => .int i
  | _, _, .str h => .str h
  | _, _, .tup h r => .tup ⟨h.1, h.2.elim (fun z => .inl ⟨Rh.out_push z.1, z.2⟩) .inr⟩ r.topush
  | _, _, .arg h r => .arg ⟨h.1, h.2.elim (fun z => .inl ⟨Rh.out_push z.1, z.2⟩) .inr⟩ r.topush
  | _, _, .tpx h r => .tpx (h.to Rh.out_push fun _ _ => rfl) r.topush
  | _, _, .exc h nm r => .exc (h.to (fun _ _ o _ => Rh.out_push o) fun _ _ _ z => z) nm r.topush
  | _, _, .eob c n h g nm r => .eob c (Rh.out_push n) h (g.to (fun _ _ o _ => Rh.out_push o) fun _ _ _ z => z) nm r.topush
  | _, _, .lst h r => .lst ⟨h.1, Rh.out_push h.2.1, h.2.2⟩ r.topush
  | _, _, .obj c n h nm r => .obj c (Rh.out_push n) h nm r.topush
  | _, _, .ref h => .ref (by
    have h' : ρ.ix[_]? = some _ := h
    show (ρ.ix ++ [p])[_]? = _
    rw [List.getElem?_append_left (List.getElem?_eq_some_iff.mp h').1]; exact h')
theorem Rps.topush {Y : Wd} {ρ : Rh} {H : Hp} {p : Addr} : ∀ {ts : List T} {vs : List V}, Rps Y (ρ.ban p) H ts vs → Rps Y (ρ.push p) H ts vs
  | _, _, .nil => .nil
  | _, _, .cons a b => .cons a.topush b.topush
end
theorem HR.topush {Y : Wd} {ρ : Rh} {H : Hp} {h : VH} {p : Addr} {vo : VO} (hp : p ∉ ρ.bn) (r : HR Y (ρ.ban p) H h) (ho : OR Y (ρ.push p) H p vo) : HR Y (ρ.push p) H (h ++ [vo]) := by
  have nix : p ∉ ρ.ix := (r.bt p List.mem_cons_self).2
  refine ⟨?_, ?_, fun a ha => ?_, r.unban.bl, fun n o a q1 q2 => ?_, r.tbTo (fun _ o _ => Rh.out_push o) fun _ _ _ => rfl⟩
  · have z : ρ.ix.length = h.length := r.len
    show (ρ.ix ++ [p]).length = (h ++ [vo]).length
    simp [z]
  · show (ρ.ix ++ [p]).Nodup
    rw [List.nodup_append]
    exact ⟨r.nd, by simp, fun a ha b hb z => by rw [List.mem_singleton.mp hb] at z; exact nix (z ▸ ha)⟩
  · have ha : a ∈ ρ.bn := ha
    refine ⟨(r.unban.bt a ha).1, fun z => ?_⟩
    rcases List.mem_append.mp (show a ∈ ρ.ix ++ [p] from z) with z | z
    · exact (r.unban.bt a ha).2 z
    · rw [List.mem_singleton.mp z] at ha
      exact hp ha
  · have q2 : (ρ.ix ++ [p])[n]? = some a := q2
    have hlen : ρ.ix.length = h.length := r.len
    by_cases hn : n < ρ.ix.length
    · rw [List.getElem?_append_left (by rw [← hlen]; exact hn)] at q1
      rw [List.getElem?_append_left hn] at q2
      have q := r.at_ n o a q1 q2
      cases o with
      | lst us => obtain ⟨ws', b1, b2, b3⟩ := q; exact ⟨ws', b1, b2, b3.topush⟩
      | ins cc fs => obtain ⟨C, dx, vfs, b0, b1, b2, b3⟩ := q; exact ⟨C, dx, vfs, b0, b1, b2, b3.topush⟩
      | dct kvs => obtain ⟨vk, b1, b2, b3⟩ := q; exact ⟨vk, b1, b2.topush, b3.topush⟩
      | dcT kvs => obtain ⟨vk, b1, b2, b3⟩ := q; exact ⟨vk, b1, b2, b3.topush⟩
      | dcF kvs => obtain ⟨z, vk, b1, b2, b3⟩ := q; exact ⟨z, vk, b1, b2.topush, b3.topush⟩
      | dcN kvs => obtain ⟨xs, b1, b0, b2, b3⟩ := q; exact ⟨xs, b1, b0, b2.topush, b3.topush⟩
      | tab nm => exact ⟨q.1, TbAt.to q.2 rfl fun c o z => ⟨Rh.out_push o, z⟩⟩
    · have en : n = ρ.ix.length := by
        have z := (List.getElem?_eq_some_iff.mp q2).1
        simp at z; omega
      rw [en, List.getElem?_append_right (Nat.le_refl _)] at q2
      rw [en, hlen, List.getElem?_append_right (Nat.le_refl _)] at q1
      simp at q1 q2
      subst q1 q2
      exact ho
def Sl (Y : Wd) (ρ : Rh) (H : Hp) (τ : TS_) (σ : St) : Prop := τ.length = σ.length ∧ ∀ (i : Nat) (t : T), τ[i]? = some (some t) → ∃ v, σ[i]? = some (some v) ∧ Rp Y ρ H t v
theorem Sl.ev {Y : Wd} {ρ ρ' : Rh} {H H' : Hp} {τ : TS_} {σ : St} (e : EvR ρ H ρ' H') (s : Sl Y ρ H τ σ) : Sl Y ρ' H' τ σ := ⟨s.1, fun i t h => let ⟨v, a, b⟩ := s.2 i t h; ⟨v, a, b.ev e⟩⟩
theorem Sl.set {Y : Wd} {ρ : Rh} {H : Hp} {τ : TS_} {σ : St} (s : Sl Y ρ H τ σ) {t : T} {v : V} (i : Nat) (r : Rp Y ρ H t v) : Sl Y ρ H (τ.set i (some t)) (σ.set i (some v)) := by
  refine ⟨by simp [s.1], fun j t' h => ?_⟩
  by_cases hj : i = j
  · subst hj
    have hi : i < τ.length := by
      have := (List.getElem?_eq_some_iff.mp h).1
      simpa using this
    rw [List.getElem?_set_self hi] at h
    cases h
    exact ⟨v, List.getElem?_set_self (by rw [← s.1]; exact hi), r⟩
  · rw [List.getElem?_set_ne hj] at h ⊢
    exact s.2 j t' h
structure Go (Y : Wd) (ρ : Rh) (H : Hp) (τ : TS_) (σ : St) (h : VH) : Prop where
  sl : Sl Y ρ H τ σ
  hr : HR Y ρ H h
structure To {α β : Type} (Y : Wd) (R : Rh → Hp → α → β → Prop) (ρ : Rh) (H : Hp) (t : α) (h' : VH) (Q : β → Hp → Prop) : Prop where
  to : ∀ ρ' H' v, Ev ρ H ρ' H' → HR Y ρ' H' h' → R ρ' H' t v → Q v H'
def TM (Y : Wd) (f : ME) : TE := fun σ H Q => ∃ ρ τ h t h', Go Y ρ H τ σ h ∧ f τ h = .ok t h' ∧ To Y (Rp Y) ρ H t h' Q
def TMA (Y : Wd) (f : MA) : TA := fun σ H Q => ∃ ρ τ h t h', Go Y ρ H τ σ h ∧ f τ h = .ok t h' ∧ To Y (Rps Y) ρ H t h' Q
def TMB (Y : Wd) (f : MB) : TT := fun σ H Q => ∃ ρ τ h t h', Go Y ρ H τ σ h ∧ f τ h = .ok t h' ∧ To Y (fun _ _ a b => a = b) ρ H t h' Q
def OutTo (Y : Wd) (ρ : Rh) (H : Hp) (o : Out) (D : Ends) : Prop := match o with
  | .nx τ h => ∀ ρ' H' σ, Ev ρ H ρ' H' → HR Y ρ' H' h → Sl Y ρ' H' τ σ → D.nx σ H'
  | .bk τ h => ∀ ρ' H' σ, Ev ρ H ρ' H' → HR Y ρ' H' h → Sl Y ρ' H' τ σ → D.bk σ H'
  | .ct τ h => ∀ ρ' H' σ, Ev ρ H ρ' H' → HR Y ρ' H' h → Sl Y ρ' H' τ σ → D.ct σ H'
  | .rt t h => ∀ ρ' H' v, Ev ρ H ρ' H' → HR Y ρ' H' h → Rp Y ρ' H' t v → D.rt v H'
  | .bad => False
def TMS (Y : Wd) (f : MS) : TS := fun D σ H => ∃ ρ τ h, Go Y ρ H τ σ h ∧ OutTo Y ρ H (f τ h) D
theorem To.ev {α β : Type} {Y : Wd} {R : Rh → Hp → α → β → Prop} {ρ ρ1 : Rh} {H H1 : Hp} {t : α} {h' : VH} {Q : β → Hp → Prop} (e : Ev ρ H ρ1 H1) (g : To Y R ρ H t h' Q) : To Y R ρ1 H1 t h' Q :=
  ⟨fun ρ' H' v e1 hr r => g.to ρ' H' v (e.trans e1) hr r⟩
theorem OutTo.ev {Y : Wd} {ρ ρ1 : Rh} {H H1 : Hp} {o : Out} {D : Ends} (e : Ev ρ H ρ1 H1) (g : OutTo Y ρ H o D) : OutTo Y ρ1 H1 o D := by
  cases o with
  | nx τ h => exact fun ρ' H' σ e1 => g ρ' H' σ (e.trans e1)
  | bk τ h => exact fun ρ' H' σ e1 => g ρ' H' σ (e.trans e1)
  | ct τ h => exact fun ρ' H' σ e1 => g ρ' H' σ (e.trans e1)
  | rt τ h => exact fun ρ' H' σ e1 => g ρ' H' σ (e.trans e1)
  | bad => exact g
theorem Go.ev {Y : Wd} {ρ ρ1 : Rh} {H H1 : Hp} {τ : TS_} {σ : St} {h h1 : VH} (g : Go Y ρ H τ σ h) (e : Ev ρ H ρ1 H1) (hr : HR Y ρ1 H1 h1) : Go Y ρ1 H1 τ σ h1 := ⟨g.sl.ev e.toEvR, hr⟩
theorem pe_imp {X : Cx} {e : Expr} {t t' : TE} (h : PE X e t) (i : ∀ σ H Q, t' σ H Q → t σ H Q) : PE X e t' := ⟨fun pins s σ H Q I q => h.run pins s σ H Q I (i _ _ _ q)⟩
theorem pt_imp {X : Cx} {e : Expr} {t t' : TT} (h : PT X e t) (i : ∀ σ H Q, t' σ H Q → t σ H Q) : PT X e t' := ⟨fun pins s σ H Q I q => h.run pins s σ H Q I (i _ _ _ q)⟩
theorem pa_imp {X : Cx} {e : List Expr} {t t' : TA} (h : PA X e t) (i : ∀ σ H Q, t' σ H Q → t σ H Q) : PA X e t' := ⟨fun pos pins s σ H Q I q => h.run pos pins s σ H Q I (i _ _ _ q)⟩
theorem ps_imp {X : Cx} {e : Stmt} {t t' : TS} (h : PS X e t) (i : ∀ D σ H, t' D σ H → t D σ H) : PS X e t' := ⟨fun pins s σ H D I q => h.run pins s σ H D I (i _ _ _ q)⟩
theorem pss_imp {X : Cx} {e : List Stmt} {t t' : TS} (h : PSs X e t) (i : ∀ D σ H, t' D σ H → t D σ H) : PSs X e t' := ⟨fun pins s σ H D I q => h.run pins s σ H D I (i _ _ _ q)⟩
end TL
namespace TL
open PySem PySem.Spec L2
def listOf (h : VH) : T → Option (List T)
  | .lst ts => some ts
  | .ref n => match h[n]? with
    | some (.lst ts) => some ts
    | _ => none
  | _ => none
def tupOf : T → Option (List T)
  | .tup ts => some ts
  | _ => none
def seqOf (h : VH) : T → Option (List T)
  | .tup ts => some ts
  | .arg ts => some ts
  | t => listOf h t
theorem listOf_ok' {Y : Wd} {ρ : Rh} {H : Hp} {h : VH} {t : T} {v : V} {ts : List T} (r : Rp Y ρ H t v) (hr : HR Y ρ H h) (e : listOf h t = some ts) : ∃ a vs, v = .ref a ∧ H a = some (.lst vs) ∧ vs.length ≤ sizeLine ∧ Rps Y ρ H ts vs := by
  cases r with
  | lst la rs => simp only [listOf, Option.some.injEq] at e; subst e; exact ⟨_, _, rfl, la.2.2, la.1, rs⟩
  | @ref n a ha =>
    simp only [listOf] at e
    cases q : h[n]? with
    | none => rw [q] at e; cases e
    | some o =>
      rw [q] at e
      cases o with
      | lst us =>
        simp only [Option.some.injEq] at e; subst e
        obtain ⟨vs, h1, hz, h2⟩ := hr.at_ n _ a q ha
        exact ⟨_, vs, rfl, h1, hz, h2⟩
      | ins c fs => cases e
      | dct kvs => cases e
      | dcT kvs => cases e
      | dcF kvs => cases e
      | dcN kvs => cases e
      | tab q => cases e
  | _ => cases e
theorem listOf_ok {Y : Wd} {ρ : Rh} {H : Hp} {h : VH} {t : T} {v : V} {ts : List T} (r : Rp Y ρ H t v) (hr : HR Y ρ H h) (e : listOf h t = some ts) : ∃ a vs, v = .ref a ∧ SqL Y.K H a vs ∧ vs.length ≤ sizeLine ∧ Rps Y ρ H ts vs :=
  let ⟨a, vs, e1, e2, e3, e4⟩ := listOf_ok' r hr e
  ⟨a, vs, e1, .inl (.inl e2), e3, e4⟩
theorem tupOf_ok {Y : Wd} {ρ : Rh} {H : Hp} {t : T} {v : V} {ts : List T} (r : Rp Y ρ H t v) (e : tupOf t = some ts) : ∃ a vs, v = .ref a ∧ SqT Y.K H a vs ∧ vs.length ≤ sizeLine ∧ Rps Y ρ H ts vs := by
  cases r with
  | tup la rs => simp only [tupOf, Option.some.injEq] at e; subst e; exact ⟨_, _, rfl, la.sq, la.1, rs⟩
  | _ => cases e
theorem seqOf_ok {Y : Wd} {ρ : Rh} {H : Hp} {h : VH} {t : T} {v : V} {ts : List T} (r : Rp Y ρ H t v) (hr : HR Y ρ H h) (e : seqOf h t = some ts) : ∃ a vs, v = .ref a ∧ (SqL Y.K H a vs ∨ SqT Y.K H a vs) ∧ vs.length ≤ sizeLine ∧ Rps Y ρ H ts vs := by
  cases r with
  | tup la rs => simp only [seqOf, Option.some.injEq] at e; subst e; exact ⟨_, _, rfl, .inr la.sq, la.1, rs⟩
  | arg la rs => simp only [seqOf, Option.some.injEq] at e; subst e; exact ⟨_, _, rfl, .inl la.sq, la.1, rs⟩
  | lst la rs =>
    obtain ⟨a, vs, e1, e2, e3, e4⟩ := listOf_ok (.lst la rs) hr (show listOf h _ = some ts from e)
    exact ⟨a, vs, e1, .inl e2, e3, e4⟩
  | ref ha =>
    obtain ⟨a, vs, e1, e2, e3, e4⟩ := listOf_ok (.ref ha) hr (show listOf h _ = some ts from e)
    exact ⟨a, vs, e1, .inl e2, e3, e4⟩
  | _ => cases e
section
variable {X : Cx} {Y : Wd}
theorem tma_bind {f : MA} {g : List T → VH → Res T} {σ : St} {H : Hp} {Q : VK} (q : TM Y (fun τ h => match f τ h with | .ok t h1 => g t h1 | .bad => .bad) σ H Q) :
    TMA Y f σ H (fun x H1 => ∃ ρ1 h1 t u h', HR Y ρ1 H1 h1 ∧ Rps Y ρ1 H1 t x ∧ g t h1 = .ok u h' ∧ To Y (Rp Y) ρ1 H1 u h' Q) := by
  obtain ⟨ρ, τ, h, u, h', G, e, to⟩ := q
  cases e1 : f τ h with
  | bad => simp only [e1] at e; cases e
  | ok t h1 =>
    simp only [e1] at e
    exact ⟨ρ, τ, h, t, h1, G, e1, ⟨fun ρ1 H1 v ev hr r => ⟨ρ1, h1, t, u, h', hr, r, e, to.ev ev⟩⟩⟩
def eVar (i : Nat) : ME := fun τ h => match τ[i]? with
  | some (some t) => .ok t h
  | _ => .bad
def eK (t : T) : ME := fun _ h => .ok t h
theorem xVar (i : Nat) {x : Str} {pos : Pos} (hN : X.N[i]? = some x := by rfl) (hv : Vis X.env.scope x := by first | exact Or.inl rfl | exact Or.inr (Or.inl rfl) | exact Or.inr (Or.inr rfl)) (hd : (x == ("__debug__" : Str)) = false := by decide)
    (hcd : (x == ("__classdict__" : Str)) = false := by decide) : PE X (.Name x pos) (TM Y (eVar i)) := by
  refine pe_imp (pe_var (i := i) hN hv hd hcd) fun σ H Q q => ?_
  obtain ⟨ρ, τ, h, t, h', G, e, to⟩ := q
  unfold eVar at e
  split at e
  · rename_i t' et
    cases e
    obtain ⟨v, ev, r⟩ := G.sl.2 i t et
    exact ⟨v, ev, to.to ρ H v .refl G.hr r⟩
  · cases e
theorem tm_k {t : T} {v : V} (r : ∀ ρ H, Rp Y ρ H t v) (σ : St) (H : Hp) (Q : VK) (q : TM Y (eK t) σ H Q) : Q v H := by
  obtain ⟨ρ, τ, h, u, h', G, e, to⟩ := q
  cases e
  exact to.to ρ H v .refl G.hr (r ρ H)
theorem xInt {i : Int} {k : Nat} {pos : Pos} : PE X (.Constant (.int i) k pos) (TM Y (eK (.int i))) := pe_imp pe_int fun σ H Q q => tm_k (fun _ _ => .int i) σ H Q q
theorem xBl {b : Bool} {k : Nat} {pos : Pos} : PE X (.Constant (.bool b) k pos) (TM Y (eK (.bl b))) := pe_imp pe_bl fun σ H Q q => tm_k (fun _ _ => .bl b) σ H Q q
theorem xNon {k : Nat} {pos : Pos} : PE X (.Constant .none k pos) (TM Y (eK .non)) := pe_imp pe_non fun σ H Q q => tm_k (fun _ _ => .non) σ H Q q
theorem xStr {x : Str} {k : Nat} {pos : Pos} (hx : x.length ≤ 1000000 := by decide) : PE X (.Constant (.str x) k pos) (TM Y (eK (.str x))) := pe_imp pe_str fun σ H Q q => tm_k (fun _ _ => .str hx) σ H Q q
def aNil : MA := fun _ h => .ok [] h
def aCons (f : ME) (g : MA) : MA := fun τ h => match f τ h with
  | .ok t h1 => (match g τ h1 with
    | .ok ts h2 => .ok (t :: ts) h2
    | .bad => .bad)
  | .bad => .bad
theorem xaNil : PA X [] (TMA Y aNil) := pa_imp pa_nil fun σ H Q q => by
  obtain ⟨ρ, τ, h, u, h', G, e, to⟩ := q
  cases e
  exact to.to ρ H [] .refl G.hr .nil
theorem xaCons {e : Expr} {es : List Expr} {f : ME} {g : MA} (ha : PE X e (TM Y f)) (hr : PA X es (TMA Y g)) (hs : starEach (e :: es) X.env = (false, eval e X.env) :: starEach es X.env := by rfl) : PA X (e :: es) (TMA Y (aCons f g)) := by
  refine pa_imp (pa_cons ha hr hs) fun σ H Q q => ?_
  obtain ⟨ρ, τ, h, u, h', G, e, to⟩ := q
  unfold aCons at e
  cases e1 : f τ h with
  | bad => simp only [e1] at e; cases e
  | ok t h1 =>
    simp only [e1] at e
    refine ⟨ρ, τ, h, t, h1, G, e1, ⟨fun ρ1 H1 v ev hr1 r => ?_⟩⟩
    cases e2 : g τ h1 with
    | bad => simp only [e2] at e; cases e
    | ok ts h2 =>
      simp only [e2] at e
      cases e
      exact ⟨ρ1, τ, h1, _, _, G.ev ev hr1, e2, ⟨fun ρ2 H2 vs ev2 hr2 rs => to.to ρ2 H2 (v :: vs) (ev.trans ev2) hr2 (.cons (r.ev ev2.toEvR) rs)⟩⟩
def TMF (Y : Wd) (f : MA) : TE := fun σ H Q => ∃ ρ τ h ts h', Go Y ρ H τ σ h ∧ f τ h = .ok ts h' ∧
  ∀ ρ' H' D vs, Ev ρ H ρ' H' → HR Y ρ' H' h' → H D = none → LstAt Y ρ' H' D vs → Rps Y ρ' H' ts vs → HR Y (ρ'.push D) H' (h' ++ [.lst ts]) → Q (.ref D) H'
def eL (f : MA) : ME := fun τ h => match f τ h with
  | .ok ts h' => .ok (.lst ts) h'
  | .bad => .bad
def eH (f : MA) : ME := fun τ h => match f τ h with
  | .ok ts h' => .ok (.ref h'.length) (h' ++ [.lst ts])
  | .bad => .bad
theorem xL {e : Expr} {f : MA} (h : PE X e (TMF Y f)) : PE X e (TM Y (eL f)) := pe_imp h fun σ H Q q => by
  obtain ⟨ρ, τ, h, u, h', G, e, to⟩ := q
  unfold eL at e
  cases e1 : f τ h with
  | bad => simp only [e1] at e; cases e
  | ok ts h1 =>
    simp only [e1] at e
    cases e
    exact ⟨ρ, τ, h, ts, _, G, e1, fun ρ' H' D vs ev hr hD la rs _ => to.to ρ' H' _ ev hr (.lst la rs)⟩
theorem xH {e : Expr} {f : MA} (h : PE X e (TMF Y f)) : PE X e (TM Y (eH f)) := pe_imp h fun σ H Q q => by
  obtain ⟨ρ, τ, h, u, h', G, e, to⟩ := q
  unfold eH at e
  cases e1 : f τ h with
  | bad => simp only [e1] at e; cases e
  | ok ts h1 =>
    simp only [e1] at e
    cases e
    refine ⟨ρ, τ, h, ts, h1, G, e1, fun ρ' H' D vs ev hr hD la rs hp => to.to (ρ'.push D) H' _ (.mk' ?_ ev.bn ev.keep ev.there ev.fz) hp (.ref ?_)⟩
    · obtain ⟨m, em, hm⟩ := ev.more
      refine ⟨m ++ [D], by simp [Rh.push, em], fun p hp => ?_⟩
      rcases List.mem_append.mp hp with z | z
      · exact hm p z
      · rw [List.mem_singleton.mp z]; exact hD
    · show (ρ'.ix ++ [D])[_]? = _
      rw [List.getElem?_append_right (by rw [hr.len]; exact Nat.le_refl _), hr.len]
      simp
theorem newL {Y : Wd} {ρ : Rh} {H : Hp} {h : VH} {ts : List T} {vs : List V} {D : Addr} (hr : HR Y ρ H h) (rs : Rps Y ρ H ts vs) (hz : vs.length ≤ sizeLine) (hD : H D = none) :
    HR Y ρ (upd H D (.lst vs)) h ∧ LstAt Y ρ (upd H D (.lst vs)) D vs ∧ Rps Y ρ (upd H D (.lst vs)) ts vs ∧ HR Y (ρ.push D) (upd H D (.lst vs)) (h ++ [.lst ts]) :=
  ⟨hr.new hD, ⟨hz, hr.outof hD, upd_same⟩, rs.ev (Ev.new hD).toEvR, hr.push hD ⟨vs, upd_same, hz, rs.ev (Ev.newρ hD).toEvR⟩⟩
def aLim (f : MA) : MA := fun τ h => match f τ h with
  | .ok ts h' => if ts.length ≤ 16777216 then .ok ts h' else .bad
  | .bad => .bad
theorem xLst {es : List Expr} {g : MA} {pos : Pos} (ha : PA X es (TMA Y g)) : PE X (.List es pos) (TMF Y (aLim g)) := pe_imp (pe_lst ha) fun σ H Q q => by
  obtain ⟨ρ, τ, h, u, h', G, e, to⟩ := q
  unfold aLim at e
  cases e1 : g τ h with
  | bad => simp only [e1] at e; cases e
  | ok ts h1 =>
    simp only [e1] at e
    split at e
    · rename_i hl
      cases e
      refine ⟨ρ, τ, h, _, _, G, e1, ⟨fun ρ1 H1 vs ev hr rs => ⟨by rw [rs.length, sizeLine_eq]; exact hl, fun p hp => ?_⟩⟩⟩
      obtain ⟨n1, n2, n3, n4⟩ := newL hr rs (by rw [rs.length, sizeLine_eq]; exact hl) hp
      refine to ρ1 _ p vs (ev.trans (Ev.new hp)) n1 ?_ n2 n3 n4
      exact ev.fresh hp
    · cases e
def eTup (g : MA) : ME := fun τ h => match g τ h with
  | .ok ts h' => if ts.length ≤ 16777216 then .ok (.tup ts) h' else .bad
  | .bad => .bad
theorem newT {Y : Wd} {ρ : Rh} {H : Hp} {h : VH} {ts : List T} {vs : List V} {D : Addr} (hr : HR Y ρ H h) (rs : Rps Y ρ H ts vs) (hz : vs.length ≤ sizeLine) (hD : H D = none) :
    HR Y ρ (upd H D (.tup vs)) h ∧ Rp Y ρ (upd H D (.tup vs)) (.tup ts) (.ref D) :=
  ⟨hr.new hD, .tup ⟨hz, .inl ⟨hr.outof hD, .inl upd_same⟩⟩ (rs.ev (Ev.new hD).toEvR)⟩
theorem xTup {es : List Expr} {g : MA} {pos : Pos} {x1} (ha : PA X es (TMA Y g)) : PE X (.Tuple es x1 pos) (TM Y (eTup g)) := pe_imp (pe_tup ha) fun σ H Q q => by
  obtain ⟨ρ, τ, h, u, h', G, e, to⟩ := q
  unfold eTup at e
  cases e1 : g τ h with
  | bad => simp only [e1] at e; cases e
  | ok ts h1 =>
    simp only [e1] at e
    split at e
    · rename_i hl
      cases e
      refine ⟨ρ, τ, h, _, _, G, e1, ⟨fun ρ1 H1 vs ev hr rs => ⟨by rw [rs.length, sizeLine_eq]; exact hl, fun p hp => ?_⟩⟩⟩
      obtain ⟨n1, n2⟩ := newT hr rs (by rw [rs.length, sizeLine_eq]; exact hl) hp
      exact to.to ρ1 _ _ (ev.trans (Ev.new hp)) n1 n2
    · cases e
def CT (Y : Wd) (r : List V → Hp → VK → Prop) (b : List T → VH → Res T) : Prop := ∀ ρ H ts vs h t h' Q, Rps Y ρ H ts vs → HR Y ρ H h → b ts h = .ok t h' → To Y (Rp Y) ρ H t h' Q → r vs H Q
def eCall (b : List T → VH → Res T) (g : MA) : ME := fun τ h => match g τ h with
  | .ok ts h1 => b ts h1
  | .bad => .bad
theorem tm_call {r : List V → Hp → VK → Prop} {b : List T → VH → Res T} (ct : CT Y r b) {g : MA} {σ : St} {H : Hp} {Q : VK} (q : TM Y (eCall b g) σ H Q) : TMA Y g σ H fun vs H1 => r vs H1 Q := by
  obtain ⟨ρ, τ, h, t, h1, G, e, to⟩ := tma_bind (show TM Y (fun τ h => match g τ h with | .ok t h1 => b t h1 | .bad => .bad) σ H Q from q)
  refine ⟨ρ, τ, h, t, h1, G, e, ⟨fun ρ1 H1 v ev hr rs => ?_⟩⟩
  obtain ⟨ρ2, h2, t2, u, h3, hr2, rs2, e2, to2⟩ := to.to ρ1 H1 v ev hr rs
  exact ct ρ2 H1 t2 v h2 u h3 Q rs2 hr2 e2 to2
def OT (Y : Wd) (r : R2) (b : T → T → VH → Res T) : Prop := ∀ ρ H t1 t2 v1 v2 h t h' Q, Rp Y ρ H t1 v1 → Rp Y ρ H t2 v2 → HR Y ρ H h → b t1 t2 h = .ok t h' → To Y (Rp Y) ρ H t h' Q → r v1 v2 H Q
def eOp (b : T → T → VH → Res T) (f g : ME) : ME := fun τ h => match f τ h with
  | .ok t h1 => (match g τ h1 with
    | .ok u h2 => b t u h2
    | .bad => .bad)
  | .bad => .bad
theorem tm_op {r : R2} {b : T → T → VH → Res T} (ot : OT Y r b) {f g : ME} {σ : St} {H : Hp} {Q : VK} (q : TM Y (eOp b f g) σ H Q) : TM Y f σ H fun x H1 => TM Y g σ H1 fun y H2 => r x y H2 Q := by
  obtain ⟨ρ, τ, h, u, h', G, e, to⟩ := q
  unfold eOp at e
  cases e1 : f τ h with
  | bad => simp only [e1] at e; cases e
  | ok t h1 =>
    simp only [e1] at e
    refine ⟨ρ, τ, h, t, h1, G, e1, ⟨fun ρ1 H1 v ev hr1 r1 => ?_⟩⟩
    cases e2 : g τ h1 with
    | bad => simp only [e2] at e; cases e
    | ok s h2 =>
      simp only [e2] at e
      exact ⟨ρ1, τ, h1, s, h2, G.ev ev hr1, e2, ⟨fun ρ2 H2 w ev2 hr2 r2 => ot ρ2 H2 t s v w h2 u h' Q (r1.ev ev2.toEvR) r2 hr2 e (to.ev (ev.trans ev2))⟩⟩
theorem xOp {op : Operator} {r : R2} {b : T → T → VH → Res T} (ot : OT Y r b) {a c : Expr} {f g : ME} {pos : Pos} (ho : OpR X (binaryOp op) r) (ha : PE X a (TM Y f)) (hb : PE X c (TM Y g)) : PE X (.BinOp a op c pos) (TM Y (eOp b f g)) :=
  pe_imp (pe_op ho ha hb) fun σ H Q q => tm_op ot q
theorem xCmp {op : CmpOp} {r : R2} {b : T → T → VH → Res T} (ot : OT Y r b) {a c : Expr} {f g : ME} {pos : Pos} (ho : OpR X (compareOp op) r) (ha : PE X a (TM Y f)) (hb : PE X c (TM Y g)) (hm : behindInMarks op c = false := by first | exact nomark _ | rfl) : PE X (.Compare a [op] [c] pos) (TM Y (eOp b f g)) :=
  pe_imp (pe_cmpR ho ha hb hm) fun σ H Q q => tm_op ot q
theorem xCallB {id : String} {x : Str} {r : List V → Hp → VK → Prop} {b : List T → VH → Res T} (ct : CT Y r b) {e : Expr} {es : List Expr} {g : MA} {p pos : Pos} (hc : CallR X (.builtin id) r) (hg : Gl X x) (hm : X.mg x = none) (hv : bootBuiltins x = some (.builtin id)) (ha : PA X (e :: es) (TMA Y g)) (hn : x ≠ "__name__" := by decide) (hdb : (x == ("__debug__" : Str)) = false := by decide)
    (he : starEach (e :: es) X.env = (false, eval e X.env) :: starEach es X.env := by rfl) (hpl : (backTo pos (starEach es X.env)).any (·.1) = false := by rfl) :
    PE X (.Call (.Name x p) (e :: es) [] pos) (TM Y (eCall b g)) := pe_imp (pe_callB hc hg hm hv ha hn hdb he hpl) fun σ H Q q => tm_call ct q
theorem xCallTy {T' : String} {x : Str} {r : List V → Hp → VK → Prop} {b : List T → VH → Res T} (ct : CT Y r b) {e : Expr} {es : List Expr} {g : MA} {p pos : Pos} (hc : CallR X (.type T') r) (hg : Gl X x) (hm : X.mg x = none) (hv : bootBuiltins x = some (.type T')) (ha : PA X (e :: es) (TMA Y g)) (hn : x ≠ "__name__" := by decide) (hdb : (x == ("__debug__" : Str)) = false := by decide)
    (he : starEach (e :: es) X.env = (false, eval e X.env) :: starEach es X.env := by rfl) (hpl : (backTo pos (starEach es X.env)).any (·.1) = false := by rfl) :
    PE X (.Call (.Name x p) (e :: es) [] pos) (TM Y (eCall b g)) := pe_imp (pe_callTy hc hg hm hv ha hn hdb he hpl) fun σ H Q q => tm_call ct q
def bTest (f : ME) : MB := fun τ h => match f τ h with
  | .ok (.bl b) h1 => .ok b h1
  | _ => .bad
theorem xtVal {e : Expr} {f : ME} (h : PE X e (TM Y f)) (he : ∀ whole, isTrue e X.env whole = (do let v ← whole; standAt e.pos; holding [v] (truthy v)) := by intro _; rfl) : PT X e (TMB Y (bTest f)) := pt_imp (pt_val h he) fun σ H Q q => by
  obtain ⟨ρ, τ, h, u, h', G, e, to⟩ := q
  unfold bTest at e
  split at e
  · rename_i b h1 e1
    cases e
    refine ⟨ρ, τ, h, _, _, G, e1, ⟨fun ρ1 H1 v ev hr r => ?_⟩⟩
    cases r
    exact ⟨_, rfl, to.to ρ1 H1 _ ev hr rfl⟩
  · cases e
theorem xtCmp {op : CmpOp} {r : R2} {b : T → T → VH → Res T} (ot : OT Y r b) {a c : Expr} {f g : ME} {pos : Pos} (ho : OpR X (compareOp op) r) (ha : PE X a (TM Y f)) (hb : PE X c (TM Y g)) (hm : behindInMarks op c = false := by first | exact nomark _ | rfl) : PT X (.Compare a [op] [c] pos) (TMB Y (bTest (eOp b f g))) :=
  pt_imp (pt_cmpR ho ha hb hm) fun σ H Q q => by
    obtain ⟨ρ, τ, h, u, h', G, e, to⟩ := q
    refine tm_op ot (Q := fun x H' => ∃ k, x = .bl k ∧ Q k H') ?_
    unfold bTest at e
    split at e
    · rename_i b h1 e1
      cases e
      refine ⟨ρ, τ, h, _, _, G, e1, ⟨fun ρ1 H1 v ev hr r => ?_⟩⟩
      cases r
      exact ⟨_, rfl, to.to ρ1 H1 _ ev hr rfl⟩
    · cases e
def bAnd (c d : MB) : MB := fun τ h => match c τ h with
  | .ok true h1 => d τ h1
  | .ok false h1 => .ok false h1
  | .bad => .bad
def bOr (c d : MB) : MB := fun τ h => match c τ h with
  | .ok true h1 => .ok true h1
  | .ok false h1 => d τ h1
  | .bad => .bad
def bNot (c : MB) : MB := fun τ h => match c τ h with
  | .ok b h1 => .ok (!b) h1
  | .bad => .bad
theorem pw_imp {e : Expr} {t t' : TT} (h : PW X e t) (i : ∀ σ H Q, t' σ H Q → t σ H Q) : PW X e t' := ⟨fun wh pins s σ H Q I q => h.run wh pins s σ H Q I (i _ _ _ q)⟩
theorem xwOr1 {a : Expr} {c : MB} {pos : Pos} (h : PT X a (TMB Y c)) : PW X (.BoolOp .Or [a] pos) (TMB Y c) := pw_or1 h
theorem xwOr {a b : Expr} {rest : List Expr} {c d : MB} {pos : Pos} (ha : PT X a (TMB Y c)) (hb : PW X (.BoolOp .Or (b :: rest) pos) (TMB Y d)) : PW X (.BoolOp .Or (a :: b :: rest) pos) (TMB Y (bOr c d)) := pw_imp (pw_or ha hb) fun σ H Q q => by
  obtain ⟨ρ, τ, h, u, h', G, e, to⟩ := q
  unfold bOr at e
  split at e
  · rename_i h1 e1
    cases e
    exact ⟨ρ, τ, h, true, _, G, e1, ⟨fun ρ1 H1 k ev hr ek => by subst ek; exact iteT (to.to ρ1 H1 true ev hr rfl)⟩⟩
  · rename_i h1 e1
    exact ⟨ρ, τ, h, false, h1, G, e1, ⟨fun ρ1 H1 k ev hr ek => by subst ek; exact iteF ⟨ρ1, τ, h1, u, h', G.ev ev hr, e, to.ev ev⟩⟩⟩
  · cases e
theorem xtW {e : Expr} {c : MB} (h : PW X e (TMB Y c)) : PT X e (TMB Y c) := h.pt
theorem xtNot {a : Expr} {c : MB} {pos : Pos} (h : PT X a (TMB Y c)) : PT X (.UnaryOp .Not a pos) (TMB Y (bNot c)) := pt_imp (pt_not h) fun σ H Q q => by
  obtain ⟨ρ, τ, h, u, h', G, e, to⟩ := q
  unfold bNot at e
  split at e
  · rename_i b h1 e1
    cases e
    exact ⟨ρ, τ, h, b, _, G, e1, ⟨fun ρ1 H1 k ev hr ek => by subst ek; exact to.to ρ1 H1 _ ev hr rfl⟩⟩
  · cases e
def eIf (c : MB) (f g : ME) : ME := fun τ h => match c τ h with
  | .ok true h1 => f τ h1
  | .ok false h1 => g τ h1
  | .bad => .bad
theorem xIf {c a b : Expr} {m : MB} {f g : ME} {pos : Pos} (hc : PT X c (TMB Y m)) (ha : PE X a (TM Y f)) (hb : PE X b (TM Y g)) : PE X (.IfExp c a b pos) (TM Y (eIf m f g)) := pe_imp (pe_ifExp hc ha hb) fun σ H Q q => by
  obtain ⟨ρ, τ, h, u, h', G, e, to⟩ := q
  unfold eIf at e
  split at e
  · rename_i h1 e1
    exact ⟨ρ, τ, h, true, h1, G, e1, ⟨fun ρ1 H1 k ev hr ek => by subst ek; exact iteT ⟨ρ1, τ, h1, u, h', G.ev ev hr, e, to.ev ev⟩⟩⟩
  · rename_i h1 e1
    exact ⟨ρ, τ, h, false, h1, G, e1, ⟨fun ρ1 H1 k ev hr ek => by subst ek; exact iteF ⟨ρ1, τ, h1, u, h', G.ev ev hr, e, to.ev ev⟩⟩⟩
  · cases e
def eAnd (f g : ME) : ME := fun τ h => match f τ h with
  | .ok (.bl true) h1 => g τ h1
  | .ok (.bl false) h1 => .ok (.bl false) h1
  | _ => .bad
def eOr (f g : ME) : ME := fun τ h => match f τ h with
  | .ok (.bl true) h1 => .ok (.bl true) h1
  | .ok (.bl false) h1 => g τ h1
  | _ => .bad
def eNot (f : ME) : ME := fun τ h => match f τ h with
  | .ok (.bl b) h1 => .ok (.bl (!b)) h1
  | _ => .bad
theorem xNot {a : Expr} {f : ME} {pos : Pos} (h : PE X a (TM Y f)) : PE X (.UnaryOp .Not a pos) (TM Y (eNot f)) := pe_imp (pe_not h) fun σ H Q q => by
  obtain ⟨ρ, τ, h, u, h', G, e, to⟩ := q
  unfold eNot at e
  split at e
  · rename_i b h1 e1
    cases e
    exact ⟨ρ, τ, h, _, _, G, e1, ⟨fun ρ1 H1 v ev hr r => by cases r; exact ⟨b, rfl, to.to ρ1 H1 _ ev hr (.bl _)⟩⟩⟩
  · cases e
end
end TL
namespace TL
open PySem PySem.Spec L2
section
variable {X : Cx} {Y : Wd}
def sNil : MS := fun τ h => .nx τ h
def sSeq (f g : MS) : MS := fun τ h => match f τ h with
  | .nx τ' h' => g τ' h'
  | o => o
theorem xsNil : PSs X [] (TMS Y sNil) := pss_imp pss_nil fun D σ H q => by
  obtain ⟨ρ, τ, h, G, to⟩ := q
  exact to ρ H σ .refl G.hr G.sl
theorem xsCons {st : Stmt} {rest : List Stmt} {f g : MS} (h1 : PS X st (TMS Y f)) (h2 : PSs X rest (TMS Y g)) : PSs X (st :: rest) (TMS Y (sSeq f g)) := pss_imp (pss_cons h1 h2) fun D σ H q => by
  obtain ⟨ρ, τ, h, G, to⟩ := q
  refine ⟨ρ, τ, h, G, ?_⟩
  unfold sSeq at to
  cases e : f τ h with
  | nx τ' h' =>
    rw [e] at to
    exact fun ρ' H' σ' ev hr sl => ⟨ρ', τ', h', ⟨sl, hr⟩, OutTo.ev ev to⟩
  | rt t h' => rw [e] at to; exact to
  | bk τ' h' => rw [e] at to; exact to
  | ct τ' h' => rw [e] at to; exact to
  | bad => rw [e] at to; exact to
theorem xsOne {st : Stmt} {f : MS} (h1 : PS X st (TMS Y f)) : PSs X [st] (TMS Y f) := pss_one h1
def sRet (f : ME) : MS := fun τ h => match f τ h with
  | .ok t h' => .rt t h'
  | .bad => .bad
theorem xsRet {e : Expr} {f : ME} {pos : Pos} (he : PE X e (TM Y f)) : PS X (.Return (some e) pos) (TMS Y (sRet f)) := ps_imp (ps_ret he) fun D σ H q => by
  obtain ⟨ρ, τ, h, G, to⟩ := q
  unfold sRet at to
  cases e : f τ h with
  | bad => simp only [e] at to; exact to.elim
  | ok t h' => simp only [e] at to; exact ⟨ρ, τ, h, t, h', G, e, ⟨fun ρ' H' v ev hr r => to ρ' H' v ev hr r⟩⟩
def sExpr (f : ME) : MS := fun τ h => match f τ h with
  | .ok _ h' => .nx τ h'
  | .bad => .bad
def sIf (c : MB) (f g : MS) : MS := fun τ h => match c τ h with
  | .ok true h1 => f τ h1
  | .ok false h1 => g τ h1
  | .bad => .bad
theorem xsIf {c : Expr} {a b : List Stmt} {m : MB} {f g : MS} {pos : Pos} (hc : PT X c (TMB Y m)) (ha : PSs X a (TMS Y f)) (hb : PSs X b (TMS Y g)) : PS X (.If c a b pos) (TMS Y (sIf m f g)) := ps_imp (ps_if hc ha hb) fun D σ H q => by
  obtain ⟨ρ, τ, h, G, to⟩ := q
  unfold sIf at to
  split at to
  · rename_i h1 e1
    exact ⟨ρ, τ, h, true, h1, G, e1, ⟨fun ρ1 H1 k ev hr ek => by subst ek; exact iteT ⟨ρ1, τ, h1, G.ev ev hr, to.ev ev⟩⟩⟩
  · rename_i h1 e1
    exact ⟨ρ, τ, h, false, h1, G, e1, ⟨fun ρ1 H1 k ev hr ek => by subst ek; exact iteF ⟨ρ1, τ, h1, G.ev ev hr, to.ev ev⟩⟩⟩
  · exact to.elim
abbrev MG := T → TS_ → VH → Res TS_
abbrev MGs := List T → TS_ → VH → Res TS_
def TMG (Y : Wd) (g : MG) : TG := fun v σ H Q => ∃ ρ τ h t τ' h', Go Y ρ H τ σ h ∧ Rp Y ρ H t v ∧ g t τ h = .ok τ' h' ∧ ∀ ρ' H' σ', Ev ρ H ρ' H' → HR Y ρ' H' h' → Sl Y ρ' H' τ' σ' → Q σ' H'
def TMGs (Y : Wd) (g : MGs) : TGs := fun v σ H Q => ∃ ρ τ h t τ' h', Go Y ρ H τ σ h ∧ Rps Y ρ H t v ∧ g t τ h = .ok τ' h' ∧ ∀ ρ' H' σ', Ev ρ H ρ' H' → HR Y ρ' H' h' → Sl Y ρ' H' τ' σ' → Q σ' H'
theorem pg_imp {e : Expr} {t t' : TG} (h : PG X e t) (i : ∀ v σ H Q, t' v σ H Q → t v σ H Q) : PG X e t' := ⟨fun pins s σ H v u Q I r q => h.run pins s σ H v u Q I r (i _ _ _ _ q)⟩
theorem pgs_imp {e : List Expr} {t t' : TGs} (h : PGs X e t) (i : ∀ v σ H Q, t' v σ H Q → t v σ H Q) : PGs X e t' := ⟨fun pins s σ H v u Q I r q => h.run pins s σ H v u Q I r (i _ _ _ _ q)⟩
def mgName (i : Nat) : MG := fun t τ h => .ok (τ.set i (some t)) h
theorem xgName {i : Nat} {x : Str} {pos : Pos} (hN : X.N.Nodup) (hi : X.N[i]? = some x) (hx : Loc X.env.scope x) (hf : X.fn x = true ∨ X.env.scope.names.lookup x = some .local := by first | exact .inl rfl | exact .inr rfl | assumption) : PG X (.Name x pos) (TMG Y (mgName i)) :=
  pg_imp (pg_name hN hi hx hf) fun v σ H Q q => by
    obtain ⟨ρ, τ, h, t, τ', h', G, r, e, to⟩ := q
    cases e
    exact to ρ H _ .refl G.hr (G.sl.set i r)
def mgsNil : MGs := fun ts τ h => match ts with
  | [] => .ok τ h
  | _ => .bad
def mgsCons (g : MG) (gs : MGs) : MGs := fun ts τ h => match ts with
  | t :: r => (match g t τ h with
    | .ok τ' h' => gs r τ' h'
    | .bad => .bad)
  | _ => .bad
theorem xgsNil : PGs X [] (TMGs Y mgsNil) := pgs_imp pgs_nil fun v σ H Q q => by
  obtain ⟨ρ, τ, h, t, τ', h', G, r, e, to⟩ := q
  cases r with
  | nil => cases e; exact ⟨rfl, to ρ H _ .refl G.hr G.sl⟩
  | cons a b => cases e
theorem xgsCons {e : Expr} {es : List Expr} {g : MG} {gs : MGs} (h1 : PG X e (TMG Y g)) (h2 : PGs X es (TMGs Y gs)) (hs : (assignEach (e :: es) X.env).map (·.2) = assign e X.env :: (assignEach es X.env).map (·.2) := by rfl) : PGs X (e :: es) (TMGs Y (mgsCons g gs)) :=
  pgs_imp (pgs_cons h1 h2 hs) fun v σ H Q q => by
    obtain ⟨ρ, τ, h, t, τ', h', G, r, e, to⟩ := q
    cases r with
    | nil => cases e
    | cons a b =>
      unfold mgsCons at e
      dsimp only at e
      split at e
      · rename_i τ1 h1 e1
        exact ⟨_, _, rfl, ρ, τ, h, _, τ1, h1, G, a, e1, fun ρ1 H1 σ1 ev hr sl => ⟨ρ1, τ1, h1, _, τ', h', ⟨sl, hr⟩, b.ev ev.toEvR, e, fun ρ2 H2 σ2 ev2 => to ρ2 H2 σ2 (ev.trans ev2)⟩⟩
      · cases e
def mgTup (n : Nat) (gs : MGs) : MG := fun t τ h => match t with
  | .tup ts => if ts.length = n then gs ts τ h else .bad
  | _ => .bad
theorem xgTup {es : List Expr} {k : Nat} {gs : MGs} {n : Nat} {pos : Pos} (hc : X.calm = true) (hK : X.K = Y.K) (h : PGs X es (TMGs Y gs)) (hn : (assignEach es X.env).length = n := by rfl) (hst : (assignEach es X.env).findIdx? (·.1) = none := by rfl) : PG X (.Tuple es k pos) (TMG Y (mgTup n gs)) :=
  pg_imp (pg_tup hc h hn hst) fun v σ H Q q => by
    obtain ⟨ρ, τ, h, t, τ', h', G, r, e, to⟩ := q
    unfold mgTup at e
    split at e
    · split at e
      · rename_i ts hl
        cases r with
        | tup ta rs => exact ⟨_, _, rfl, by rw [hK]; exact ta.sq, by rw [rs.length]; exact hl, ρ, τ, h, ts, τ', h', G, rs, e, to⟩
      · cases e
    · cases e
def ST (Y : Wd) (r : TSet) (b : T → T → T → VH → Res Unit) : Prop := ∀ ρ H o i t vo vi v h h' Q, Rp Y ρ H o vo → Rp Y ρ H i vi → Rp Y ρ H t v → HR Y ρ H h → b o i t h = .ok () h' → (∀ ρ' H', Ev ρ H ρ' H' → HR Y ρ' H' h' → Q H') → r vo vi v H Q
def mgSub (b : T → T → T → VH → Res Unit) (fo fi : ME) : MG := fun t τ h => match fo τ h with
  | .ok o h1 => (match fi τ h1 with
    | .ok i h2 => (match b o i t h2 with
      | .ok _ h3 => .ok τ h3
      | .bad => .bad)
    | .bad => .bad)
  | .bad => .bad
theorem xgSub {o i : Expr} {fo fi : ME} {r : TSet} {b : T → T → T → VH → Res Unit} {pos : Pos} (st : ST Y r b) (ho : PE X o (TM Y fo)) (hi : PE X i (TM Y fi)) (hs : PSet X r)
    (ha : ∀ v, assign (.Subscript o i pos) X.env v = (do
      let ov ← holding [v] (eval o X.env)
      let iv ← holding [v, ov] (eval i X.env)
      standAt pos
      holding [v, ov, iv] (setItem ov iv v)
      release [v, ov, iv] []) := by intro _; rfl) : PG X (.Subscript o i pos) (TMG Y (mgSub b fo fi)) :=
  pg_imp (pg_sub ho hi hs ha) fun v σ H Q q => by
    obtain ⟨ρ, τ, h, t, τ', h', G, r, e, to⟩ := q
    unfold mgSub at e
    cases e1 : fo τ h with
    | bad => simp only [e1] at e; cases e
    | ok ot h1 =>
      simp only [e1] at e
      cases e2 : fi τ h1 with
      | bad => simp only [e2] at e; cases e
      | ok it h2 =>
        simp only [e2] at e
        cases e3 : b ot it t h2 with
        | bad => simp only [e3] at e; cases e
        | ok u h3 =>
          simp only [e3] at e
          cases e
          refine ⟨ρ, τ, h, ot, h1, G, e1, ⟨fun ρ1 H1 vo ev hr1 ro => ⟨ρ1, τ, h1, it, h2, G.ev ev hr1, e2, ⟨fun ρ2 H2 vi ev2 hr2 ri => ?_⟩⟩⟩⟩
          exact st ρ2 H2 ot it t vo vi v h2 _ _ (ro.ev ev2.toEvR) ri (r.ev (ev.trans ev2).toEvR) hr2 e3 fun ρ3 H3 ev3 hr3 => to ρ3 H3 σ ((ev.trans ev2).trans ev3) hr3 (G.sl.ev ((ev.trans ev2).trans ev3).toEvR)
def sAsg (f : ME) (g : MG) : MS := fun τ h => match f τ h with
  | .ok t h1 => (match g t τ h1 with
    | .ok τ' h' => .nx τ' h'
    | .bad => .bad)
  | .bad => .bad
theorem tms_asg {f : ME} {g : MG} {D : Ends} {σ : St} {H : Hp} (q : TMS Y (sAsg f g) D σ H) : TM Y f σ H fun x H1 => TMG Y g x σ H1 D.nx := by
  obtain ⟨ρ, τ, h, G, to⟩ := q
  unfold sAsg at to
  cases e1 : f τ h with
  | bad => simp only [e1] at to; exact to.elim
  | ok t h1 =>
    simp only [e1] at to
    refine ⟨ρ, τ, h, t, h1, G, e1, ⟨fun ρ1 H1 v ev hr r => ?_⟩⟩
    cases e2 : g t τ h1 with
    | bad => simp only [e2] at to; exact to.elim
    | ok τ' h' =>
      simp only [e2] at to
      exact ⟨ρ1, τ, h1, t, τ', h', G.ev ev hr, r, e2, fun ρ2 H2 σ2 ev2 hr2 sl2 => to ρ2 H2 σ2 (ev.trans ev2) hr2 sl2⟩
theorem xsAsg {tg e : Expr} {f : ME} {g : MG} {pos : Pos} (he : PE X e (TM Y f)) (hg : PG X tg (TMG Y g)) (hs : swapsWithSole [tg] e pos.line X.env = pure false := by rfl) (hw : swappedStores [tg] e X.env = pure none := by rfl)
    (h1 : (assignEach [tg] X.env).map (·.2) = [assign tg X.env] := by rfl) : PS X (.Assign [tg] e pos) (TMS Y (sAsg f g)) := ps_imp (ps_asg he hg hs hw h1) fun D σ H q => tms_asg q
def sSet (i : Nat) (f : ME) : MS := fun τ h => match f τ h with
  | .ok t h1 => .nx (τ.set i (some t)) h1
  | .bad => .bad
theorem tms_set {i : Nat} {f : ME} {D : Ends} {σ : St} {H : Hp} (q : TMS Y (sSet i f) D σ H) : TM Y f σ H fun x H1 => D.nx (σ.set i (some x)) H1 := by
  obtain ⟨ρ, τ, h, G, to⟩ := q
  unfold sSet at to
  cases e1 : f τ h with
  | bad => simp only [e1] at to; exact to.elim
  | ok t h1 =>
    simp only [e1] at to
    exact ⟨ρ, τ, h, t, h1, G, e1, ⟨fun ρ1 H1 v ev hr r => to ρ1 H1 _ ev hr ((G.sl.ev ev.toEvR).set i r)⟩⟩
theorem xsSet {i : Nat} {x : Str} {e : Expr} {f : ME} {pos pos' : Pos} (hN : X.N.Nodup) (hi : X.N[i]? = some x) (hx : Loc X.env.scope x) (he : PE X e (TM Y f)) (hs : swapsWith e (some (.Name x pos')) pos.line X.env = pure false := by rfl) (hf : X.fn x = true ∨ X.env.scope.names.lookup x = some .local := by first | exact .inl rfl | exact .inr rfl | assumption) :
    PS X (.Assign [.Name x pos'] e pos) (TMS Y (sSet i f)) := ps_imp (ps_set hN hi hx he hs hf) fun D σ H q => tms_set q
def sPar (i j : Nat) (g : MA) : MS := fun τ h => match g τ h with
  | .ok [t, u] h1 => .nx ((τ.set i (some t)).set j (some u)) h1
  | _ => .bad
theorem xsPar {i j : Nat} {x y : Str} {a b : Expr} {g : MA} {px py pt pos : Pos} {kt k2 pt2} (hc : X.calm = true) (hN : X.N.Nodup) (hi : X.N[i]? = some x) (hj : X.N[j]? = some y) (hij : i ≠ j)
    (hx : X.env.scope.names.lookup x = some .local) (hy : X.env.scope.names.lookup y = some .local) (ha : PA X [a, b] (TMA Y g))
    (hw : swappedStores [.Tuple [.Name x px, .Name y py] kt pt] (.Tuple [a, b] k2 pt2) X.env = pure (some [x, y]) := by rfl)
    (hs : swapsWithSole [.Tuple [.Name x px, .Name y py] kt pt] (.Tuple [a, b] k2 pt2) pos.line X.env = pure false := by rfl) :
    PS X (.Assign [.Tuple [.Name x px, .Name y py] kt pt] (.Tuple [a, b] k2 pt2) pos) (TMS Y (sPar i j g)) := ps_imp (ps_par hc hN hi hj hij hx hy ha hw hs) fun D σ H q => by
  obtain ⟨ρ, τ, h, G, to⟩ := q
  unfold sPar at to
  split at to
  · rename_i t u h1 e1
    refine ⟨ρ, τ, h, [t, u], h1, G, e1, ⟨fun ρ1 H1 vs ev hr r => ?_⟩⟩
    cases r with
    | cons r1 r2 =>
      cases r2 with
      | cons r2 r3 =>
        cases r3
        exact ⟨_, _, rfl, to ρ1 H1 _ ev hr (((G.sl.ev ev.toEvR).set i r1).set j r2)⟩
  · exact to.elim
abbrev MI := TS_ → VH → Res (VH → Option (List T))
structure Wk (Y : Wd) (J : It) (rd : VH → Option (List T)) (ρ0 : Rh) (H0 : Hp) : Prop where
  go : ∀ ρ H h ts i t, EvR ρ0 H0 ρ H → HR Y ρ H h → rd h = some ts → ts[i]? = some t → J.go i H ∧ ∀ x H', J.yld i H x H' → Ev ρ H ρ H' ∧ HR Y ρ H' h ∧ Rp Y ρ H' t x
  stop : ∀ ρ H h ts i, EvR ρ0 H0 ρ H → HR Y ρ H h → rd h = some ts → ts.length ≤ i → J.stop i H
def TMI (Y : Wd) (f : MI) : TI := fun σ H R => ∃ ρ τ h rd h', Go Y ρ H τ σ h ∧ f τ h = .ok rd h' ∧ ∀ ρ' H' J, Ev ρ H ρ' H' → HR Y ρ' H' h' → Wk Y J rd ρ' H' → R J H'
theorem pi_imp {tg e : Expr} {t t' : TI} (h : PI X tg e t) (i : ∀ σ H Q, t' σ H Q → t σ H Q) : PI X tg e t' := ⟨fun pins s σ H R I q => h.run pins s σ H R I (i _ _ _ q)⟩
def forL (rd : VH → Option (List T)) (g : MG) (body : MS) (n : Nat) : Nat → Nat → TS_ → VH → Out
  | 0, _, τ, h => match rd h with
    | some ts => if ts.length = n then .nx τ h else .bad
    | none => .bad
  | k + 1, i, τ, h => match rd h with
    | some ts => if ts.length = n then (match ts[i]? with
      | some t => (match g t τ h with
        | .ok τ1 h1 => (match body τ1 h1 with
          | .nx τ2 h2 => forL rd g body n k (i + 1) τ2 h2
          | .ct τ2 h2 => forL rd g body n k (i + 1) τ2 h2
          | .bk τ2 h2 => .nx τ2 h2
          | o => o)
        | .bad => .bad)
      | none => .bad) else .bad
    | none => .bad
def sFor (mi : MI) (g : MG) (body : MS) : MS := fun τ h => match mi τ h with
  | .ok rd h1 => (match rd h1 with
    | some ts => forL rd g body ts.length ts.length 0 τ h1
    | none => .bad)
  | .bad => .bad
theorem tms_for {mi : MI} {g : MG} {body : MS} {D : Ends} {σ : St} {H : Hp} (q : TMS Y (sFor mi g body) D σ H) : tFor (TMI Y mi) (TMG Y g) (TMS Y body) D σ H := by
  obtain ⟨ρ, τ, h, G, to⟩ := q
  unfold sFor at to
  cases e1 : mi τ h with
  | bad => simp only [e1] at to; exact to.elim
  | ok rd h1 =>
    simp only [e1] at to
    refine ⟨ρ, τ, h, rd, h1, G, e1, fun ρ1 H1 J ev hr wk => ?_⟩
    cases e2 : rd h1 with
    | none => simp only [e2] at to; exact to.elim
    | some ts0 =>
      simp only [e2] at to
      refine ⟨fun i m σ H => i + m = ts0.length ∧ ∃ ρ2 τ2 h2, Ev ρ1 H1 ρ2 H ∧ Go Y ρ2 H τ2 σ h2 ∧ OutTo Y ρ2 H (forL rd g body ts0.length m i τ2 h2) D, ⟨ts0.length, by omega, ρ1, τ, h1, .refl, G.ev ev hr, to.ev ev⟩, ?_⟩
      rintro i m σ2 H2 ⟨him, ρ2, τ2, h2, ev2, G2, to2⟩
      cases m with
      | zero =>
        unfold forL at to2
        split at to2
        · rename_i ts ets
          split at to2
          · rename_i hl
            exact .inl ⟨wk.stop ρ2 H2 h2 ts i ev2.toEvR G2.hr ets (by omega), to2 ρ2 H2 σ2 .refl G2.hr G2.sl⟩
          · exact to2.elim
        · exact to2.elim
      | succ m =>
        unfold forL at to2
        split at to2
        · rename_i ts ets
          split at to2
          · rename_i hl
            split at to2
            · rename_i t et
              obtain ⟨go, yl⟩ := wk.go ρ2 H2 h2 ts i t ev2.toEvR G2.hr ets et
              refine .inr ⟨go, fun σ' H' => ∃ ρ3 τ3 h3, Ev ρ1 H1 ρ3 H' ∧ Go Y ρ3 H' τ3 σ' h3 ∧ OutTo Y ρ3 H' (forL rd g body ts0.length m (i + 1) τ3 h3) D, fun σ' H' hh => ⟨m, by omega, by omega, hh⟩, fun x H3 hy => ?_⟩
              obtain ⟨ev3, hr3, r3⟩ := yl x H3 hy
              split at to2
              · rename_i τ4 h4 e4
                refine ⟨ρ2, τ2, h2, t, τ4, h4, ⟨G2.sl.ev ev3.toEvR, hr3⟩, r3, e4, fun ρ5 H5 σ5 ev5 hr5 sl5 => ⟨ρ5, τ4, h4, ⟨sl5, hr5⟩, ?_⟩⟩
                have to3 := to2.ev (ev3.trans ev5)
                have evv := ev2.trans (ev3.trans ev5)
                cases e6 : body τ4 h4 with
                | nx τ6 h6 =>
                  simp only [e6] at to3
                  exact fun ρ7 H7 σ7 ev7 hr7 sl7 => ⟨ρ7, τ6, h6, evv.trans ev7, ⟨sl7, hr7⟩, to3.ev ev7⟩
                | ct τ6 h6 =>
                  simp only [e6] at to3
                  exact fun ρ7 H7 σ7 ev7 hr7 sl7 => ⟨ρ7, τ6, h6, evv.trans ev7, ⟨sl7, hr7⟩, to3.ev ev7⟩
                | bk τ6 h6 =>
                  simp only [e6] at to3
                  exact to3
                | rt t6 h6 =>
                  simp only [e6] at to3
                  exact to3
                | bad =>
                  simp only [e6] at to3
                  exact to3.elim
              · exact to2.elim
            · exact to2.elim
          · exact to2.elim
        · exact to2.elim
theorem xsFor {tg iter : Expr} {body : List Stmt} {mi : MI} {g : MG} {f : MS} {pos : Pos} (hp : PassesOwn (model X.prog X.w) X.A X.env X.xe) (hc : X.calm = true) (hi : PI X tg iter (TMI Y mi)) (hg : PG X tg (TMG Y g)) (hb : PSs X body (TMS Y f))
    (hs : ∀ x, foldedSetIterable iter X.env x = pure x := by intro _; rfl) : PS X (.For tg iter body [] pos) (TMS Y (sFor mi g f)) := ps_imp (ps_for hp hc hi hg hb hs) fun D σ H q => tms_for q
def wipeT (τ : TS_) : List Nat → TS_
  | [] => τ
  | v :: vs => (wipeT τ vs).set v none
theorem Sl.unset {ρ : Rh} {H : Hp} {τ : TS_} {σ : St} (s : Sl Y ρ H τ σ) (i : Nat) : Sl Y ρ H (τ.set i none) (σ.set i none) := by
  refine ⟨by simp [s.1], fun j t' h => ?_⟩
  by_cases hj : i = j
  · subst hj
    have hi : i < τ.length := by
      have := (List.getElem?_eq_some_iff.mp h).1
      simpa using this
    rw [List.getElem?_set_self hi] at h
    cases h
  · rw [List.getElem?_set_ne hj] at h ⊢
    exact s.2 j t' h
theorem Sl.wipe {ρ : Rh} {H : Hp} {τ : TS_} {σ : St} (s : Sl Y ρ H τ σ) : ∀ vs : List Nat, Sl Y ρ H (wipeT τ vs) (wipe σ vs)
  | [] => s
  | v :: vs => (s.wipe vs).unset v
theorem set_same {α : Type} (l : List α) (i : Nat) (a b : α) : (l.set i a).set i b = l.set i b := by simp
theorem wipe_set {σ : St} {v : V} : ∀ {vs : List Nat} {i : Nat}, i ∈ vs → wipe (σ.set i (some v)) vs = wipe σ vs
  | w :: vs, i, h => by
    unfold wipe
    by_cases hi : i = w
    · subst hi
      by_cases hm : i ∈ vs
      · rw [wipe_set hm]
      · have : ∀ (us : List Nat), i ∉ us → wipe (σ.set i (some v)) us = (wipe σ us).set i (some v) := by
          intro us
          induction us with
          | nil => intro _; rfl
          | cons u us ih =>
            intro hu
            unfold wipe
            rw [ih (fun z => hu (List.mem_cons_of_mem _ z)), List.set_comm _ _ (fun z => hu (by rw [z]; exact List.mem_cons_self))]
        rw [this vs hm, set_same]
    · rw [wipe_set ((List.mem_cons.mp h).resolve_left hi)]
end
end TL
namespace TL
open PySem PySem.Spec L2
open PyProof.Rows (envOfC)
section
variable {X : Cx} {Y : Wd}
def TMGW (Y : Wd) (g : MG) (ws : List Nat) : TG := fun v σ H Q => ∃ ρ τ h t τ' h', Go Y ρ H τ σ h ∧ Rp Y ρ H t v ∧ g t τ h = .ok τ' h' ∧ ∀ ρ' H' σ', Ev ρ H ρ' H' → HR Y ρ' H' h' → Sl Y ρ' H' τ' σ' → wipe σ' ws = wipe σ ws → Q σ' H'
theorem wgName {i : Nat} {ws : List Nat} {x : Str} {pos : Pos} (hm : i ∈ ws) (hN : X.N.Nodup) (hi : X.N[i]? = some x) (hx : Loc X.env.scope x) (hf : X.fn x = true ∨ X.env.scope.names.lookup x = some .local := by first | exact .inl rfl | exact .inr rfl | assumption) : PG X (.Name x pos) (TMGW Y (mgName i) ws) :=
  pg_imp (pg_name hN hi hx hf) fun v σ H Q q => by
    obtain ⟨ρ, τ, h, t, τ', h', G, r, e, to⟩ := q
    cases e
    exact to ρ H _ .refl G.hr (G.sl.set i r) (wipe_set hm)
def bYes : MB := fun _ h => .ok true h
theorem pts_imp {e : List Expr} {t t' : TT} (h : PTs X e t) (i : ∀ σ H Q, t' σ H Q → t σ H Q) : PTs X e t' := ⟨fun pins s σ H Q I q => h.run pins s σ H Q I (i _ _ _ q)⟩
theorem xtsNil : PTs X [] (TMB Y bYes) := pts_imp pts_nil fun σ H Q q => by
  obtain ⟨ρ, τ, h, u, h', G, e, to⟩ := q
  cases e
  exact to.to ρ H _ .refl G.hr rfl
def lcL (rd : VH → Option (List T)) (g : MG) (c : MB) (e : ME) (τ : TS_) (n : Nat) : Nat → Nat → List T → VH → Res (List T)
  | 0, _, acc, h => match rd h with
    | some ts => if ts.length = n then .ok acc h else .bad
    | none => .bad
  | k + 1, i, acc, h => match rd h with
    | some ts => if ts.length = n then (match ts[i]? with
      | some t => (match g t τ h with
        | .ok τ1 h1 => (match c τ1 h1 with
          | .ok true h2 => (match e τ1 h2 with
            | .ok y h3 => lcL rd g c e τ n k (i + 1) (acc ++ [y]) h3
            | .bad => .bad)
          | .ok false h2 => lcL rd g c e τ n k (i + 1) acc h2
          | .bad => .bad)
        | .bad => .bad)
      | none => .bad) else .bad
    | none => .bad
def mLc (mi : MI) (ws : List Nat) (g : MG) (c : MB) (e : ME) : MA := fun τ h => match mi τ h with
  | .ok rd h1 => (match rd h1 with
    | some ts => if ts.length ≤ 16777216 then lcL rd g c e (wipeT τ ws) ts.length ts.length 0 [] h1 else .bad
    | none => .bad)
  | .bad => .bad
theorem wipe_idem (σ : St) : ∀ ws : List Nat, wipe (wipe σ ws) ws = wipe σ ws := by
  have one : ∀ (ws : List Nat) (u : Nat), u ∈ ws → (wipe σ ws).set u none = wipe σ ws := by
    intro ws u
    induction ws with
    | nil => intro hm; cases hm
    | cons w ws ih2 =>
      intro hm
      show ((wipe σ ws).set w none).set u none = (wipe σ ws).set w none
      by_cases hw : u = w
      · subst hw; simp
      · rw [List.set_comm _ _ (fun z => hw z.symm), ih2 ((List.mem_cons.mp hm).resolve_left hw)]
  have key : ∀ (us ws : List Nat), (∀ u ∈ us, u ∈ ws) → wipe (wipe σ ws) us = wipe σ ws := by
    intro us
    induction us with
    | nil => intro ws _; rfl
    | cons u us ih =>
      intro ws h
      show (wipe (wipe σ ws) us).set u none = wipe σ ws
      rw [ih ws fun v hv => h v (List.mem_cons_of_mem _ hv)]
      exact one ws u (h u List.mem_cons_self)
  exact fun ws => key ws ws fun _ h => h
theorem Sl.updb {ρ : Rh} {H : Hp} {τ : TS_} {σ : St} {p : Addr} {o : HO} (hp : p ∈ ρ.bn) (s : Sl Y ρ H τ σ) : Sl Y ρ (upd H p o) τ σ := ⟨s.1, fun i t h => let ⟨v, a, b⟩ := s.2 i t h; ⟨v, a, b.updb hp⟩⟩
theorem ban_split {ρ1 ρ2 ρ' : Rh} {H1 H2 H' : Hp} {D : Addr} (hD : H1 D = none) (a : Ev ρ1 H1 ρ2 H2) (b : Ev (ρ2.ban D) H2 ρ' H') : ∃ ρ8 : Rh, ρ' = ρ8.ban D ∧ Ev ρ1 H1 ρ8 H' := by
  obtain ⟨ix, bn⟩ := ρ'
  have e : bn = D :: ρ2.bn := b.bn
  subst e
  refine ⟨⟨ix, ρ2.bn⟩, rfl, a.trans ?_⟩
  exact .mk' b.more rfl b.keep b.there b.fz
theorem Ev.updf {ρ ρ' : Rh} {H H' : Hp} {D : Addr} {o : HO} (hD : H D = none) (e : Ev ρ H ρ' H') : Ev ρ H ρ' (upd H' D o) :=
  .mk' e.more e.bn (fun b u z n nt => by rw [upd_ne (ne_of_none z hD)]; exact e.keep b u z n nt) (fun b z => by
    by_cases q : b = D
    · rw [q, upd_same]; simp
    · rw [upd_ne q]; exact e.there b z) fun b x u z => by rw [upd_ne (ne_of_none z hD)]; exact e.fz b x u z
theorem tm_lc {mi : MI} {g : MG} {c : MB} {e : ME} {ws : List Nat} {σ : St} {H : Hp} {Q : VK} (q : TMF Y (mLc mi ws g c e) σ H Q) : tLc (TMI Y mi) (TMGW Y g ws) (TMB Y c) (TM Y e) ws σ H Q := by
  obtain ⟨ρ, τ, h, ys, h', G, e0, to⟩ := q
  unfold mLc at e0
  cases e1 : mi τ h with
  | bad => simp only [e1] at e0; cases e0
  | ok rd h1 =>
    simp only [e1] at e0
    refine ⟨ρ, τ, h, rd, h1, G, e1, fun ρ1 H1 J ev hr wk => ?_⟩
    cases e2 : rd h1 with
    | none => simp only [e2] at e0; cases e0
    | some ts0 =>
      simp only [e2] at e0
      split at e0
      case isFalse => cases e0
      rename_i hz0
      intro D hD
      have hD0 : H D = none := ev.fresh hD
      have slw : Sl Y ρ1 H1 (wipeT τ ws) (wipe σ ws) := (G.sl.ev ev.toEvR).wipe ws
      have slb : Sl Y (ρ1.ban D) (upd H1 D (.lst [])) (wipeT τ ws) (wipe σ ws) := ⟨slw.1, fun i t ht => let ⟨v, a, b⟩ := slw.2 i t ht; ⟨v, a, (b.ban hD).updb List.mem_cons_self⟩⟩
      have ev0 : Ev ρ1 H1 ρ1 (upd H1 D (.lst [])) := Ev.new hD
      refine ⟨fun i m H => i + m = ts0.length ∧ ∃ ρ2 h2 acc vs, Ev ρ1 H1 ρ2 H ∧ Sl Y (ρ2.ban D) H (wipeT τ ws) (wipe σ ws) ∧ HR Y (ρ2.ban D) H h2 ∧ H D = some (.lst vs) ∧ Rps Y (ρ2.ban D) H acc vs ∧ acc.length ≤ i ∧ lcL rd g c e (wipeT τ ws) ts0.length m i acc h2 = .ok ys h',
        ⟨ts0.length, by omega, ρ1, h1, [], [], ev0, slb, hr.begin hD, upd_same, .nil, Nat.le_refl _, e0⟩, ?_⟩
      rintro i m H2 ⟨him, ρ2, h2, acc, vs, ev2, sl2, hr2, hd2, rs2, hl2, e3⟩
      have mb : D ∈ (ρ2.ban D).bn := List.mem_cons_self
      have nix2 : D ∉ (ρ2.ban D).ix := (hr2.bt D mb).2
      cases m with
      | zero =>
        unfold lcL at e3
        split at e3
        · rename_i ts ets
          split at e3
          · rename_i hl
            cases e3
            have hn : vs.length ≤ sizeLine := by rw [rs2.length, sizeLine_eq]; omega
            have nix : D ∉ ρ2.ix := (hr2.bt D mb).2
            have nb : D ∉ ρ2.bn := fun z => by
              rw [ev2.bn] at z
              exact (hr.bt D z).1 hD
            exact .inl ⟨wk.stop ρ2 H2 _ ts i ev2.toEvR hr2.unban ets (by omega), to ρ2 H2 D vs (ev.trans ev2) hr2.unban hD0 ⟨hn, ⟨nix, nb⟩, hd2⟩ rs2.unban (hr2.topush nb ⟨vs, hd2, hn, rs2.topush⟩)⟩
          · cases e3
        · cases e3
      | succ m =>
        unfold lcL at e3
        split at e3
        · rename_i ts ets
          split at e3
          · rename_i hl
            split at e3
            · rename_i t et
              obtain ⟨go, yl⟩ := wk.go (ρ2.ban D) H2 h2 ts i t (ev2.toEvR.ban hD) hr2 ets et
              refine .inr ⟨go, fun H' => ∃ ρ3 h3 acc3 vs3, Ev ρ1 H1 ρ3 H' ∧ Sl Y (ρ3.ban D) H' (wipeT τ ws) (wipe σ ws) ∧ HR Y (ρ3.ban D) H' h3 ∧ H' D = some (.lst vs3) ∧ Rps Y (ρ3.ban D) H' acc3 vs3 ∧ acc3.length ≤ i + 1 ∧ lcL rd g c e (wipeT τ ws) ts0.length m (i + 1) acc3 h3 = .ok ys h',
                fun H' hh => ⟨m, by omega, by omega, hh⟩, fun x H3 hy => ?_⟩
              obtain ⟨ev3, hr3, r3⟩ := yl x H3 hy
              split at e3
              case h_2 => cases e3
              rename_i τ4 h4 e4
              refine ⟨ρ2.ban D, wipeT τ ws, h2, t, τ4, h4, ⟨sl2.ev ev3.toEvR, hr3⟩, r3, e4, fun ρ5 H5 σ5 ev5 hr5 sl5 w5 => ?_⟩
              refine ⟨by rw [w5]; exact wipe_idem σ ws, ?_⟩
              have ev35 := ev3.trans ev5
              split at e3
              case h_3 => cases e3
              · rename_i h6 e6
                split at e3
                case h_2 => cases e3
                rename_i y h7 e7
                refine ⟨ρ5, τ4, h4, true, h6, ⟨sl5, hr5⟩, e6, ⟨fun ρ6 H6 b ev6 hr6 eb => ?_⟩⟩
                subst eb
                refine iteT ⟨ρ6, τ4, h6, y, h7, ⟨sl5.ev ev6.toEvR, hr6⟩, e7, ⟨fun ρ7 H7 v ev7 hr7 r7 => ?_⟩⟩
                have eva := (ev35.trans ev6).trans ev7
                have hd7 : H7 D = some (.lst vs) := eva.keep D _ hd2 nix2 (fun _ z => by cases z)
                obtain ⟨ρ8, rfl, ev8⟩ := ban_split hD ev2 eva
                have mb7 : D ∈ (ρ8.ban D).bn := List.mem_cons_self
                refine ⟨vs, hd7, by rw [rs2.length, sizeLine_eq]; omega, ρ8, h7, acc ++ [y], vs ++ [v], ev8.updf hD, ?_, hr7.updb mb7, upd_same, ((rs2.ev eva.toEvR).snoc r7).updb mb7, by simp; omega, e3⟩
                exact (sl2.ev eva.toEvR).updb mb7
              · rename_i h6 e6
                refine ⟨ρ5, τ4, h4, false, h6, ⟨sl5, hr5⟩, e6, ⟨fun ρ6 H6 b ev6 hr6 eb => ?_⟩⟩
                subst eb
                refine iteF ?_
                have eva := ev35.trans ev6
                have hd7 : H6 D = some (.lst vs) := eva.keep D _ hd2 nix2 (fun _ z => by cases z)
                obtain ⟨ρ8, rfl, ev8⟩ := ban_split hD ev2 eva
                exact ⟨ρ8, h6, acc, vs, ev8, sl2.ev eva.toEvR, hr6, hd7, rs2.ev eva.toEvR, by omega, e3⟩
            · cases e3
          · cases e3
        · cases e3
theorem pe_tmf {e : Expr} {t : TE} {f : MA} (h : PE X e t) (i : ∀ σ H Q, TMF Y f σ H Q → t σ H Q) : PE X e (TMF Y f) := pe_imp h i
theorem xLc {elt tg iter : Expr} {ifs : List Expr} {scope : Scope} {own : List (Str × Nat)} {pos : Pos} {mi : MI} {g : MG} {c : MB} {f : ME} (hc : X.calm = true) (hN : X.N.Nodup) (hi : PI X tg iter (TMI Y mi)) (ok : BlkOk X.N X.env.scope scope own)
    (hg : ∀ (s : Shared) (H : Hp) (C : Addr) (cl : List (Str × Addr)) (fp : List Addr), PG (X.blk s H scope (compEnvC scope cl C X.env) fp) tg (TMGW Y g (own.map (·.2)))) (ht : ∀ (s : Shared) (H : Hp) (C : Addr) (cl : List (Str × Addr)) (fp : List Addr), PTs (X.blk s H scope (compEnvC scope cl C X.env) fp) ifs (TMB Y c))
    (he : ∀ (s : Shared) (H : Hp) (C : Addr) (cl : List (Str × Addr)) (fp : List Addr), PE (X.blk s H scope (compEnvC scope cl C X.env) fp) elt (TM Y f)) (hs : ∀ x, foldedSetIterable iter X.env x = pure x := by intro _; rfl) :
    PE X (.ListComp elt [⟨tg, iter, ifs, 0⟩] scope pos) (TMF Y (mLc mi (own.map (·.2)) g c f)) := pe_tmf (pe_lc hc hN hi ok hg ht he hs) fun σ H Q q => tm_lc q
theorem xsSetLcL {i : Nat} {y : Str} {py : Pos} {elt tg iter : Expr} {ifs : List Expr} {scope : Scope} {own : List (Str × Nat)} {pos spos : Pos} {mi : MI} {g : MG} {c : MB} {f : ME} (hc : X.calm = true) (hN : X.N.Nodup) (hy : X.N[i]? = some y) (hyl : X.env.scope.names.lookup y = some .local)
    (hsw : swapsWith (.ListComp elt [⟨tg, iter, ifs, 0⟩] scope pos) (some (.Name y py)) spos.line X.env = pure true) (hi : PI X tg iter (TMI Y mi)) (ok : BlkOk X.N X.env.scope scope own)
    (hg : ∀ (s : Shared) (H : Hp) (C : Addr) (cl : List (Str × Addr)) (fp : List Addr), PG (X.blk s H scope (compEnvC scope cl C X.env) fp) tg (TMGW Y g (own.map (·.2)))) (ht : ∀ (s : Shared) (H : Hp) (C : Addr) (cl : List (Str × Addr)) (fp : List Addr), PTs (X.blk s H scope (compEnvC scope cl C X.env) fp) ifs (TMB Y c))
    (he : ∀ (s : Shared) (H : Hp) (C : Addr) (cl : List (Str × Addr)) (fp : List Addr), PE (X.blk s H scope (compEnvC scope cl C X.env) fp) elt (TM Y f)) (hs : ∀ x, foldedSetIterable iter X.env x = pure x := by intro _; rfl) :
    PS X (.Assign [.Name y py] (.ListComp elt [⟨tg, iter, ifs, 0⟩] scope pos) spos) (TMS Y (sSet i (eL (mLc mi (own.map (·.2)) g c f)))) := ps_imp (ps_setLc hc hN hy hyl hsw hi ok hg ht he hs) fun D σ H q => by
  obtain ⟨ρ, τ, h, ts, h', G, e, to⟩ := tms_set q
  unfold eL at e
  cases e1 : mLc mi (own.map (·.2)) g c f τ h with
  | bad => simp only [e1] at e; cases e
  | ok us h1 =>
    simp only [e1] at e
    cases e
    exact tm_lc ⟨ρ, τ, h, us, _, G, e1, fun ρ' H' D' vs ev hr hD la rs _ => to.to ρ' H' _ ev hr (.lst la rs)⟩
def spM (Y : Wd) (m : List T → VH → Res T) : Sp := fun vs H Q _ => ∃ ρ ts h t h', Rps Y ρ H ts vs ∧ HR Y ρ H h ∧ m ts h = .ok t h' ∧ To Y (Rp Y) ρ H t h' Q
def startT (n : Nat) (ts : List T) : TS_ := ts.map some ++ List.replicate (n - ts.length) none
def defM (n p : Nat) (f : MS) : List T → VH → Res T := fun ts h => if ts.length = p then (match f (startT n ts) h with
  | .nx _ h' => .ok .non h'
  | .rt t h' => .ok t h'
  | _ => .bad) else .bad
theorem sl_start {ρ : Rh} {H : Hp} {ts : List T} {vs : List V} {N : List Str} (r : Rps Y ρ H ts vs) : Sl Y ρ H (startT N.length ts) (L2.start N vs) := by
  have hl := r.length
  refine ⟨by simp [startT, L2.start, hl], fun i t e => ?_⟩
  unfold startT at e
  by_cases hi : i < ts.length
  · rw [List.getElem?_append_left (by simpa using hi), List.getElem?_map] at e
    cases q : ts[i]? with
    | none => rw [q] at e; cases e
    | some u =>
      rw [q] at e
      cases e
      obtain ⟨v, hv, rv⟩ := r.get q
      refine ⟨v, ?_, rv⟩
      unfold L2.start
      rw [List.getElem?_append_left (by simp [hl]; exact hi), List.getElem?_map, hv]
      rfl
  · rw [List.getElem?_append_right (by simpa using Nat.le_of_not_lt hi), List.getElem?_replicate] at e
    split at e <;> cases e
theorem fnM {P : Program} {w : World} {K : PySem.W.Frag} {mg : Str → Option Value} {base : Heap} {x qual : Str} {params : Arguments} {body : List Stmt} {scope : Scope} {dvs : List V} {kws : List (Str × V)} {f : Addr} {fd : FuncData} {N ps : List Str} {k : Nat} {g : MS}
    (F : FunD K x qual params body scope dvs kws f fd) (S : FnScope N ps scope) (n p : Nat) (hn : N.length = n := by rfl) (hp : ps.length = p := by rfl)
    (hb : ∀ (cdv : Value) (A : Around) (outer : List Env) (s : Shared) (H : Hp) (E : XK), Room k (A.deeper (envOfC qual scope s.heap.objs.size f cdv)) → PSs (cxOf CX0 P w K mg base N qual scope f cdv A outer s H E).nox body (TMS Y g)) :
    FnOk P w K mg base CX0 (k + 1) f fd ps (spM Y (defM n p g)) := by
  subst hn hp
  refine F.ok S (fun vs H Q E h => ?_) (fun cdv A outer s H vs Q E hr h => ⟨TMS Y g, (hb cdv A outer s H E hr).nox, ?_⟩)
  · obtain ⟨ρ, ts, hh, t, h', r, hr, e, to⟩ := h
    unfold defM at e
    split at e
    · rename_i hl
      rw [r.length]; exact hl
    · cases e
  · obtain ⟨ρ, ts, hh, t, h', r, hr, e, to⟩ := h
    unfold defM at e
    split at e
    · rename_i hl
      refine ⟨ρ, startT N.length ts, hh, ⟨sl_start r, hr⟩, ?_⟩
      cases q : g (startT N.length ts) hh with
      | nx τ' h1 =>
        simp only [q] at e
        cases e
        exact fun ρ' H' σ' ev hr' sl => to.to ρ' H' .non ev hr' .non
      | rt u h1 =>
        simp only [q] at e
        cases e
        exact fun ρ' H' v ev hr' r' => to.to ρ' H' v ev hr' r'
      | bk τ' h1 => simp only [q] at e; cases e
      | ct τ' h1 => simp only [q] at e; cases e
      | bad => simp only [q] at e; cases e
    · cases e
theorem ct_sp {m : List T → VH → Res T} (E : XK) : CT Y (fun vs H Q => spM Y m vs H Q E) m := fun ρ H ts vs h t h' Q r hr e to => ⟨ρ, ts, h, t, h', r, hr, e, to⟩
theorem xCall {k : Nat} {f : Addr} {fd : FuncData} {ps : List Str} {m : List T → VH → Res T} {x : Str} {p pos : Pos} {e : Expr} {es : List Expr} {g : MA} (F : FnOk X.prog X.w X.K X.mg X.base CX0 k f fd ps (spM Y m)) (hr : Room k X.A) (hg : Gl X x) (hm : X.mg x = some (.ref f)) (hk : PySem.W.keepIn X.K (.ref f) = true) (hb : Binds X.K fd ps [])
    (ha : PA X (e :: es) (TMA Y g)) (hdb : (x == ("__debug__" : Str)) = false := by decide) (he : starEach (e :: es) X.env = (false, eval e X.env) :: starEach es X.env := by rfl) (hpl : (backTo pos (starEach es X.env)).any (·.1) = false := by rfl) :
    PE X (.Call (.Name x p) (e :: es) [] pos) (TM Y (eCall m g)) := pe_imp (pe_call F hr hg hm hk hb .nil pass0 ha hdb he hpl) fun σ H Q q => by
  have z := tm_call (ct_sp (m := m) E0) q
  obtain ⟨ρ, τ, h, t, h1, G, e1, to⟩ := z
  exact ⟨ρ, τ, h, t, h1, G, e1, ⟨fun ρ' H' v ev hr r => by rw [List.append_nil]; exact to.to ρ' H' v ev hr r⟩⟩
mutual
def T.lowR (n : Nat) : T → Bool
  | .tup ts => lowRs n ts
  | .arg ts => lowRs n ts
  | .tpx ts => lowRs n ts
  | .exc _ _ _ _ fs => lowRs n fs
  | .eob _ fs => lowRs n fs
  | .lst ts => lowRs n ts
  | .obj _ fs => lowRs n fs
  | .ref k => decide (k < n)
  | _ => true
def lowRs (n : Nat) : List T → Bool
  | [] => true
  | t :: ts => t.lowR n && lowRs n ts
end
end
end TL
namespace TL
open PySem PySem.Spec L2
open PyProof.Rows (envOfC)
section
variable {Y : Wd} {ρ ρ' : Rh} {H H' : Hp}
mutual
theorem Rp.low : ∀ {t : T} {v : V}, Rp Y ρ H t v → t.lowR ρ.ix.length = true
  | _, _, .non => rfl
  | _, _, .bl b => rfl
  | _, _, .int i => rfl
  | _, _, .str h => rfl
  | _, _, .tup h r => by simp only [T.lowR]; exact r.lows
  | _, _, .arg h r => by simp only [T.lowR]; exact r.lows
  | _, _, .tpx h r => by simp only [T.lowR]; exact r.lows
  | _, _, .exc h nm r => by simp only [T.lowR]; exact r.lows
  | _, _, .eob c n h g nm r => by simp only [T.lowR]; exact r.lows
  | _, _, .lst h r => by simp only [T.lowR]; exact r.lows
  | _, _, .obj c n h nm r => by simp only [T.lowR]; exact r.lows
  | _, _, .ref h => by simp only [T.lowR]; exact decide_eq_true (List.getElem?_eq_some_iff.mp h).1
theorem Rps.lows : ∀ {ts : List T} {vs : List V}, Rps Y ρ H ts vs → lowRs ρ.ix.length ts = true
  | _, _, .nil => rfl
  | _, _, .cons a b => by simp only [lowRs, a.low, b.lows, Bool.and_self]
end
structure Sub (ρ ρ' : Rh) : Prop where
  ix : ∃ m, ρ'.ix = ρ.ix ++ m
  bn : ρ'.bn = ρ.bn
theorem Sub.out (s : Sub ρ ρ') {a : Addr} (h : ρ'.out a) : ρ.out a := by
  obtain ⟨m, e⟩ := s.ix
  exact ⟨fun z => h.1 (by rw [e]; exact List.mem_append_left _ z), fun z => h.2 (by rw [s.bn]; exact z)⟩
end
end TL
namespace TL
open PySem PySem.Spec L2
def T.dat (h : VH) : Nat → T → Option PyData
  | _, .non => some .none
  | _, .bl b => some (.bool b)
  | _, .int i => some (.int i)
  | _, .str x => some (.str x)
  | k + 1, .tup ts => (ts.mapM (T.dat h k)).map .tuple
  | k + 1, .lst ts => (ts.mapM (T.dat h k)).map .list
  | k + 1, .ref n => match h[n]? with
    | some (.lst ts) => (ts.mapM (T.dat h k)).map .list
    | _ => none
  | _, _ => none
theorem dats_ok {Y : Wd} {ρ : Rh} {H : Hp} {f : T → Option PyData} {k : Nat} (hf : ∀ t v d, Rp Y ρ H t v → f t = some d → Dp Y.K H v d ∧ d.plain = true ∧ d.depth ≤ k) :
    ∀ {ts : List T} {vs : List V} {ds : List PyData}, Rps Y ρ H ts vs → ts.mapM f = some ds → DpAll Y.K H vs ds ∧ PyData.plainAll ds = true ∧ PyData.depthAll ds ≤ k
  | [], _, ds, r, e => by
    cases r
    simp at e
    subst e
    exact ⟨.nil, rfl, Nat.zero_le _⟩
  | t :: ts, _, ds, r, e => by
    cases r with
    | cons a b =>
      rw [List.mapM_cons] at e
      cases e1 : f t with
      | none => rw [e1] at e; simp at e
      | some u =>
        rw [e1] at e
        cases e2 : ts.mapM f with
        | none => rw [e2] at e; simp at e
        | some us' =>
          rw [e2] at e
          simp at e
          subst e
          obtain ⟨q1, q2, q3⟩ := hf _ _ _ a e1
          obtain ⟨p1, p2, p3⟩ := dats_ok hf b e2
          exact ⟨.cons q1 p1, by rw [PyData.plainAll, q2, p2]; rfl, by rw [PyData.depthAll]; exact Nat.max_le.mpr ⟨q3, p3⟩⟩
theorem dat_ok {Y : Wd} {ρ : Rh} {H : Hp} {h : VH} (hr : HR Y ρ H h) : ∀ (k : Nat) (t : T) (v : V) (d : PyData), Rp Y ρ H t v → T.dat h k t = some d → Dp Y.K H v d ∧ d.plain = true ∧ d.depth ≤ k := by
  intro k
  induction k with
  | zero =>
    intro t v d r e
    cases r with
    | non => simp [T.dat] at e; subst e; exact ⟨.non, rfl, Nat.le_refl _⟩
    | bl b => simp [T.dat] at e; subst e; exact ⟨.bl b, rfl, Nat.le_refl _⟩
    | int i => simp [T.dat] at e; subst e; exact ⟨.int i, rfl, Nat.le_refl _⟩
    | str hx => simp [T.dat] at e; subst e; exact ⟨.str _, rfl, Nat.le_refl _⟩
    | _ => simp [T.dat] at e
  | succ k ih =>
    intro t v d r e
    cases r with
    | non => simp [T.dat] at e; subst e; exact ⟨.non, rfl, Nat.zero_le _⟩
    | bl b => simp [T.dat] at e; subst e; exact ⟨.bl b, rfl, Nat.zero_le _⟩
    | int i => simp [T.dat] at e; subst e; exact ⟨.int i, rfl, Nat.zero_le _⟩
    | str hx => simp [T.dat] at e; subst e; exact ⟨.str _, rfl, Nat.zero_le _⟩
    | tup ta rs =>
      simp only [T.dat, Option.map_eq_some_iff] at e
      obtain ⟨ds, e1, rfl⟩ := e
      obtain ⟨q1, q2, q3⟩ := dats_ok (ih) rs e1
      exact ⟨.tup ta.sq q1, by simp only [PyData.plain]; exact q2, by rw [PyData.depth]; omega⟩
    | lst ta rs =>
      simp only [T.dat, Option.map_eq_some_iff] at e
      obtain ⟨ds, e1, rfl⟩ := e
      obtain ⟨q1, q2, q3⟩ := dats_ok (ih) rs e1
      exact ⟨.lst ta.sq q1, by simp only [PyData.plain]; exact q2, by rw [PyData.depth]; omega⟩
    | obj _ _ _ _ _ => simp [T.dat] at e
    | arg _ _ => simp [T.dat] at e
    | tpx _ _ => simp [T.dat] at e
    | exc _ _ _ => simp [T.dat] at e
    | eob _ _ _ _ _ _ => simp [T.dat] at e
    | @ref n a ha =>
      unfold T.dat at e
      split at e
      · rename_i ts eo
        simp only [Option.map_eq_some_iff] at e
        obtain ⟨ds, e1, rfl⟩ := e
        obtain ⟨vs, h1, hz, rs⟩ := hr.at_ n _ a eo ha
        obtain ⟨q1, q2, q3⟩ := dats_ok (ih) rs e1
        exact ⟨.lst (.of h1) q1, by simp only [PyData.plain]; exact q2, by rw [PyData.depth]; omega⟩
      · cases e
section
variable {X : Cx}
def rEqP (K : PySem.W.Frag) (g : PyData → PyData → Bool) : R2 := fun x y H Q => ∃ d e, Dp K H x d ∧ Dp K H y e ∧ d.plain = true ∧ e.plain = true ∧ d.depth ≤ 12 ∧ Q (.bl (g d e)) H
theorem op_neP (hu : X.A.units + 80 < cLine) : OpR X (compareOp .NotEq) (rEqP X.K fun d e => !PyData.eqv d e) := by
  intro pins s σ H x y v u Q I rx ry h
  obtain ⟨d, e, hd, he, sd, se, hz, q⟩ := h
  obtain ⟨as, r1⟩ := Dp.reads I d x v hd rx
  obtain ⟨bs, r2⟩ := Dp.reads I e y u he ry
  exact SeqAt.ne_plain r1 r2 sd se (by omega) ⟨.bl _, H, I, rfl, q⟩
def rOrd (K : PySem.W.Frag) (g : PyData → PyData → Bool) : R2 := fun x y H Q => ∃ d e, Dp K H x d ∧ Dp K H y e ∧ PySem.W.alike d e = true ∧ d ≠ .none ∧ d.depth ≤ 12 ∧ Q (.bl (g d e)) H
theorem op_ltP (hu : X.A.units + 80 < cLine) : OpR X (compareOp .Lt) (rOrd X.K fun d e => PySem.W.dataLt d e) := by
  intro pins s σ H x y v u Q I rx ry h
  obtain ⟨d, e, hd, he, sd, se, hz, q⟩ := h
  obtain ⟨as, r1⟩ := Dp.reads I d x v hd rx
  obtain ⟨bs, r2⟩ := Dp.reads I e y u he ry
  exact PySem.W.lt_data r1 r2 sd se (by omega) ⟨.bl _, H, I, rfl, q⟩
theorem op_gtP (hu : X.A.units + 80 < cLine) : OpR X (compareOp .Gt) (rOrd X.K fun d e => PySem.W.dataLt e d) := by
  intro pins s σ H x y v u Q I rx ry h
  obtain ⟨d, e, hd, he, sd, se, hz, q⟩ := h
  obtain ⟨as, r1⟩ := Dp.reads I d x v hd rx
  obtain ⟨bs, r2⟩ := Dp.reads I e y u he ry
  exact PySem.W.gt_data r1 r2 sd se (by omega) ⟨.bl _, H, I, rfl, q⟩
theorem op_geP (hu : X.A.units + 80 < cLine) : OpR X (compareOp .GtE) (rOrd X.K fun d e => !PySem.W.dataLt d e) := by
  intro pins s σ H x y v u Q I rx ry h
  obtain ⟨d, e, hd, he, sd, se, hz, q⟩ := h
  obtain ⟨as, r1⟩ := Dp.reads I d x v hd rx
  obtain ⟨bs, r2⟩ := Dp.reads I e y u he ry
  exact PySem.W.ge_data r1 r2 sd se (by omega) ⟨.bl _, H, I, rfl, q⟩
end
section
variable {X : Cx} {Y : Wd}
theorem OT.or {r r' : R2} {b : T → T → VH → Res T} (h : ∀ ρ H t1 t2 v1 v2 h t h' Q, Rp Y ρ H t1 v1 → Rp Y ρ H t2 v2 → HR Y ρ H h → b t1 t2 h = .ok t h' → To Y (Rp Y) ρ H t h' Q → r v1 v2 H Q ∨ r' v1 v2 H Q) : OT Y (fun x y H Q => r x y H Q ∨ r' x y H Q) b := h
def bEqG (g : PyData → PyData → Bool) : T → T → VH → Res T := fun a b h => match a.dat h 10, b.dat h 10 with
  | some x, some y => .ok (.bl (g x y)) h
  | _, _ => .bad
def bNe := bEqG fun d e => !PyData.eqv d e
theorem ot_eqG (g : PyData → PyData → Bool) : OT Y (rEqP Y.K g) (bEqG g) := fun ρ H t1 t2 v1 v2 h t h' Q r1 r2 hr e to => by
  unfold bEqG at e
  split at e
  · rename_i x y e1 e2
    cases e
    obtain ⟨p1, p2, p3⟩ := dat_ok hr _ _ _ _ r1 e1
    obtain ⟨q1, q2, q3⟩ := dat_ok hr _ _ _ _ r2 e2
    exact ⟨x, y, p1, q1, p2, q2, by omega, to.to ρ H _ .refl hr (.bl _)⟩
  · cases e
def notNone : PyData → Bool
  | .none => false
  | _ => true
theorem notNone_ne {d : PyData} (h : notNone d = true) : d ≠ .none := fun z => by subst z; cases h
def bOrdD (g : PyData → PyData → Bool) (a b : T) (h : VH) : Res T := match a.dat h 10, b.dat h 10 with
  | some x, some y => if (PySem.W.alike x y && notNone x) = true then .ok (.bl (g x y)) h else .bad
  | _, _ => .bad
def bOrdG (g : PyData → PyData → Bool) (gi : Int → Int → Bool) (a b : T) (h : VH) : Res T := match a, b with
  | .int i, .int j => .ok (.bl (gi i j)) h
  | a, b => bOrdD g a b h
def bLt := bOrdG (fun d e => PySem.W.dataLt d e) fun i j => decide (i < j)
def bLe := bOrdG (fun d e => !PySem.W.dataLt e d) fun i j => decide (i ≤ j)
def bGt := bOrdG (fun d e => PySem.W.dataLt e d) fun i j => decide (j < i)
def bGe := bOrdG (fun d e => !PySem.W.dataLt d e) fun i j => decide (j ≤ i)
def rO (K : PySem.W.Frag) (g : PyData → PyData → Bool) (gi : Int → Int → Bool) : R2 := fun x y H Q => rI0 (fun i j => .bl (gi i j)) x y H Q ∨ rOrd K g x y H Q
theorem ot_ord (g : PyData → PyData → Bool) (gi : Int → Int → Bool) : OT Y (rO Y.K g gi) (bOrdG g gi) := fun ρ H t1 t2 v1 v2 h t h' Q r1 r2 hr e to => by
  unfold bOrdG at e
  split at e
  · cases e
    cases r1
    cases r2
    exact .inl ⟨_, _, rfl, rfl, to.to ρ H _ .refl hr (.bl _)⟩
  · unfold bOrdD at e
    split at e
    · rename_i x y e1 e2
      split at e
      · rename_i c
        cases e
        rw [Bool.and_eq_true] at c
        obtain ⟨p1, p2, p3⟩ := dat_ok hr _ _ _ _ r1 e1
        obtain ⟨q1, q2, q3⟩ := dat_ok hr _ _ _ _ r2 e2
        exact .inr ⟨x, y, p1, q1, c.1, notNone_ne c.2, by omega, to.to ρ H _ .refl hr (.bl _)⟩
      · cases e
    · cases e
theorem oLt (hu : X.A.units + 80 < cLine) : OpR X (compareOp .Lt) (rO X.K (fun d e => PySem.W.dataLt d e) fun i j => decide (i < j)) := op_lt.or (op_ltP hu)
theorem oGt (hu : X.A.units + 80 < cLine) : OpR X (compareOp .Gt) (rO X.K (fun d e => PySem.W.dataLt e d) fun i j => decide (j < i)) := op_gt.or (op_gtP hu)
theorem oGe (hu : X.A.units + 80 < cLine) : OpR X (compareOp .GtE) (rO X.K (fun d e => !PySem.W.dataLt d e) fun i j => decide (j ≤ i)) := op_ge.or (op_geP hu)
def isNon : T → Bool
  | .non => true
  | _ => false
def bIsG (neg : Bool) (a b : T) (h : VH) : Res T := match b with
  | .non => .ok (.bl (neg != isNon a)) h
  | _ => .bad
def bIs := bIsG false
def bIsn := bIsG true
def bI (c : Int → Int → Bool) (g : Int → Int → Int) (a b : T) (h : VH) : Res T := match a, b with
  | .int i, .int j => if c i j = true then .ok (.int (g i j)) h else .bad
  | _, _ => .bad
def bI0 (g : Int → Int → Int) (a b : T) (h : VH) : Res T := match a, b with
  | .int i, .int j => .ok (.int (g i j)) h
  | _, _ => .bad
theorem ot_I {C : Int → Int → Prop} {c : Int → Int → Bool} (g : Int → Int → Int) (hc : ∀ i j, c i j = true → C i j) : OT Y (rI C fun i j => .int (g i j)) (bI c g) := fun ρ H t1 t2 v1 v2 h t h' Q r1 r2 hr e to => by
  unfold bI at e
  split at e
  · split at e
    · rename_i c'
      cases e
      cases r1
      cases r2
      exact ⟨_, _, rfl, rfl, hc _ _ c', to.to ρ H _ .refl hr (.int _)⟩
    · cases e
  · cases e
def bSub := bI0 fun i j => i - j
def bMod := bI (fun _ j => decide (0 < j)) fun i j => i % j
def bFdv := bI (fun i j => decide (0 < j) && decide (j < 1073741824)) fun i j => i / j
def bPow := bI (fun i j => decide (0 ≤ j) && decide (j ≤ 1000) && decide (i.natAbs < 1000000)) fun i j => i ^ j.toNat
def cMul (i j : Int) : Bool := (decide (-1000000000000000000 < i) && decide (i < 1000000000000000000)) || (decide (-1000000000000000000 < j) && decide (j < 1000000000000000000))
theorem ot_mod : OT Y (rI (fun x j => 0 < j) fun i j => .int (i % j)) bMod := ot_I _ fun i j h => of_decide_eq_true h
theorem ot_fdv : OT Y (rI CDiv fun i j => .int (i / j)) bFdv := ot_I _ fun i j h => by rw [Bool.and_eq_true] at h; exact ⟨of_decide_eq_true h.1, of_decide_eq_true h.2⟩
theorem ot_pow : OT Y (rI CPow fun i j => .int (i ^ j.toNat)) bPow := ot_I _ fun i j h => by
  rw [Bool.and_eq_true, Bool.and_eq_true] at h
  have h1 := of_decide_eq_true h.1.1
  have h2 := of_decide_eq_true h.1.2
  have h3 := of_decide_eq_true h.2
  exact ⟨h1, by omega, by omega⟩
theorem cMul_ok {i j : Int} (h : cMul i j = true) : CMul i j := by
  unfold cMul at h
  rw [Bool.or_eq_true, Bool.and_eq_true, Bool.and_eq_true] at h
  rcases h with h | h
  · have h1 := of_decide_eq_true h.1
    have h2 := of_decide_eq_true h.2
    exact .inl ⟨by omega, by omega⟩
  · have h1 := of_decide_eq_true h.1
    have h2 := of_decide_eq_true h.2
    exact .inr ⟨by omega, by omega⟩
def bAdd (a b : T) (h : VH) : Res T := match a, b with
  | .int i, .int j => .ok (.int (i + j)) h
  | .str x, .str y => if x.length + y.length ≤ 1000000 then .ok (.str (x ++ y)) h else .bad
  | .tup x, .tup y => if x.length + y.length ≤ 16777216 then .ok (.tup (x ++ y)) h else .bad
  | a, b => match listOf h a, listOf h b with
    | some x, some y => if x.length + y.length ≤ 16777216 then .ok (.lst (x ++ y)) h else .bad
    | _, _ => .bad
def rAddS : R2 := fun x y H Q => ∃ i j, x = .str i ∧ y = .str j ∧ i.length + j.length ≤ sizeLine ∧ Q (.str (i ++ j)) H
def rAdd (K : PySem.W.Frag) : R2 := fun x y H Q => rI0 (fun i j => .int (i + j)) x y H Q ∨ rAddS x y H Q ∨ rCatA K x y H Q ∨ rCat x y H Q
theorem oAdd : OpR X (binaryOp .Add) (rAdd X.K) := op_add.or (OpR.or (r := rAddS) op_add_str (op_catA.or op_cat))
theorem len_app (x y : Str) : (x ++ y).length = x.length + y.length := by
  show (x.cps ++ y.cps).size = _
  rw [Array.size_append]; rfl
theorem newL' {ρ : Rh} {H : Hp} {h : VH} {ts : List T} {vs : List V} {D : Addr} (hr : HR Y ρ H h) (rs : Rps Y ρ H ts vs) (hz : vs.length ≤ sizeLine) (hD : H D = none) : HR Y ρ (upd H D (.lst vs)) h ∧ Rp Y ρ (upd H D (.lst vs)) (.lst ts) (.ref D) :=
  let ⟨a, b, c, _⟩ := newL hr rs hz hD
  ⟨a, .lst b c⟩
theorem ot_add : OT Y (rAdd Y.K) bAdd := fun ρ H t1 t2 v1 v2 h t h' Q r1 r2 hr e to => by
  unfold bAdd at e
  split at e
  · cases e
    cases r1
    cases r2
    exact .inl ⟨_, _, rfl, rfl, to.to ρ H _ .refl hr (.int _)⟩
  · split at e
    · rename_i hz
      cases e
      cases r1
      cases r2
      exact .inr (.inl ⟨_, _, rfl, rfl, by rw [sizeLine_eq]; omega, to.to ρ H _ .refl hr (.str (by rw [len_app]; exact hz))⟩)
    · cases e
  · split at e
    · rename_i hz
      cases e
      cases r1 with
      | tup ta ra =>
        cases r2 with
        | tup tb rb =>
          refine .inr (.inr (.inl ⟨_, _, _, _, rfl, rfl, ta.sq, tb.sq, by rw [ra.length, rb.length, sizeLine_eq]; exact hz, fun z => ?_, fun z0 z => ?_, fun _ _ p hp => ?_⟩))
          · subst z
            cases ra
            exact to.to ρ H _ .refl hr (.tup tb rb)
          · subst z
            cases rb
            rw [List.append_nil] at to
            exact to.to ρ H _ .refl hr (.tup ta ra)
          · obtain ⟨n1, n2⟩ := newT hr (ra.append rb) (by rw [List.length_append, ra.length, rb.length, sizeLine_eq]; exact hz) hp
            exact to.to ρ _ _ (Ev.new hp) n1 n2
    · cases e
  · split at e
    · rename_i x y e1 e2
      split at e
      · rename_i hz
        cases e
        obtain ⟨a, va, rfl, ha, hza, ra⟩ := listOf_ok' r1 hr e1
        obtain ⟨b, vb, rfl, hb, hzb, rb⟩ := listOf_ok' r2 hr e2
        have hl : va.length + vb.length ≤ sizeLine := by rw [ra.length, rb.length, sizeLine_eq]; exact hz
        refine .inr (.inr (.inr ⟨a, b, va, vb, rfl, rfl, ha, hb, hl, fun p hp => ?_⟩))
        obtain ⟨n1, n2⟩ := newL' hr (ra.append rb) (by rw [List.length_append]; exact hl) hp
        exact to.to ρ _ _ (Ev.new hp) n1 n2
      · cases e
    · cases e
theorem Rps.rep {ρ : Rh} {H : Hp} {ts : List T} {vs : List V} (r : Rps Y ρ H ts vs) : ∀ k : Nat, Rps Y ρ H (List.replicate k ts).flatten (List.replicate k vs).flatten
  | 0 => .nil
  | k + 1 => by
    simp only [List.replicate_succ, List.flatten_cons]
    exact r.append (r.rep k)
theorem rep_len {α : Type} (l : List α) (k : Nat) : (List.replicate k l).flatten.length = k * l.length := by simp
def bMul (a b : T) (h : VH) : Res T := match a, b with
  | .int i, .int j => if cMul i j = true then .ok (.int (i * j)) h else .bad
  | a, .int k => match listOf h a with
    | some x => if x.length * k.toNat ≤ 16777216 ∧ -1000000000 ≤ k ∧ k ≤ 1000000000 then .ok (.lst (List.replicate k.toNat x).flatten) h else .bad
    | _ => .bad
  | _, _ => .bad
def rMul : R2 := fun x y H Q => rI CMul (fun i j => .int (i * j)) x y H Q ∨ rRep x y H Q
theorem oMul : OpR X (binaryOp .Mult) rMul := op_mul.or op_rep
theorem ot_mul : OT Y rMul bMul := fun ρ H t1 t2 v1 v2 h t h' Q r1 r2 hr e to => by
  unfold bMul at e
  split at e
  · split at e
    · rename_i c
      cases e
      cases r1
      cases r2
      exact .inl ⟨_, _, rfl, rfl, cMul_ok c, to.to ρ H _ .refl hr (.int _)⟩
    · cases e
  · split at e
    · rename_i x e1
      split at e
      · rename_i hz
        cases e
        cases r2
        obtain ⟨a, va, rfl, ha, hza, ra⟩ := listOf_ok' r1 hr e1
        have hl := hz.1
        rw [← ra.length, ← sizeLine_eq] at hl
        refine .inr ⟨a, _, va, rfl, rfl, ha, by omega, by omega, hl, fun p hp => ?_⟩
        obtain ⟨n1, n2⟩ := newL' hr (ra.rep _) (by rw [rep_len, Nat.mul_comm]; exact hl) hp
        exact to.to ρ _ _ (Ev.new hp) n1 n2
      · cases e
    · cases e
  · cases e
theorem atI_rps {ρ : Rh} {H : Hp} {ts : List T} {vs : List V} {i : Int} {t : T} (r : Rps Y ρ H ts vs) (e : atI ts i = some t) : ∃ v, atI vs i = some v ∧ Rp Y ρ H t v := by
  unfold atI at e ⊢
  rw [r.length]
  cases q : ixN ts.length i with
  | none => rw [q] at e; cases e
  | some j => rw [q] at e; exact r.get e
def bIx (a b : T) (h : VH) : Res T := match a, b with
  | .tup ts, .int i => (match atI ts i with
    | some t => .ok t h
    | none => .bad)
  | .arg ts, .int i => (match atI ts i with
    | some t => .ok t h
    | none => .bad)
  | .str z, .int i => (match atI z.cps.toList i with
    | some c => .ok (.str ⟨#[c]⟩) h
    | none => .bad)
  | a, .int i => (match listOf h a with
    | some ts => (match atI ts i with
      | some t => .ok t h
      | none => .bad)
    | none => .bad)
  | _, _ => .bad
theorem ot_ix : OT Y (rIx Y.K) bIx := fun ρ H t1 t2 v1 v2 h t h' Q r1 r2 hr e to => by
  unfold bIx at e
  split at e
  · split at e
    · rename_i q
      cases e
      cases r2
      cases r1 with
      | tup ta rs =>
        obtain ⟨v, ev, rv⟩ := atI_rps rs q
        exact .inr (.inl ⟨_, _, _, v, rfl, rfl, ta.sq, ev, to.to ρ H _ .refl hr rv⟩)
    · cases e
  · split at e
    · rename_i q
      cases e
      cases r2
      cases r1 with
      | arg ta rs =>
        obtain ⟨v, ev, rv⟩ := atI_rps rs q
        exact .inl ⟨_, _, _, v, rfl, rfl, ta.sq, ev, to.to ρ H _ .refl hr rv⟩
    · cases e
  · split at e
    · rename_i q
      cases e
      cases r2
      cases r1 with
      | str hz => exact .inr (.inr ⟨_, _, _, rfl, rfl, by rw [sizeLine_eq]; omega, q, to.to ρ H _ .refl hr (.str (by show (#[_] : Array Nat).size ≤ _; simp))⟩)
    · cases e
  · split at e
    · rename_i x e1
      split at e
      · rename_i q
        cases e
        cases r2
        obtain ⟨a, va, rfl, ha, hza, ra⟩ := listOf_ok r1 hr e1
        obtain ⟨v, ev, rv⟩ := atI_rps ra q
        exact .inl ⟨_, _, _, v, rfl, rfl, ha, ev, to.to ρ H _ .refl hr rv⟩
      · cases e
    · cases e
  · cases e
theorem xIx {a b : Expr} {f g : ME} {pos : Pos} (hK : X.K = Y.K) (ha : PE X a (TM Y f)) (hb : PE X b (TM Y g)) (hs : PlainIx b) : PE X (.Subscript a b pos) (TM Y (eOp bIx f g)) :=
  pe_imp (pe_ix (by rw [← hK]; exact ix_seq) ha hb hs) fun σ H Q q => tm_op ot_ix q
abbrev MO := TS_ → VH → Res (Option Int)
def TMO (Y : Wd) (f : MO) : TO := fun σ H Q => ∃ ρ τ h t h', Go Y ρ H τ σ h ∧ f τ h = .ok t h' ∧ To Y (fun _ _ a b => a = b) ρ H t h' Q
def oNo : MO := fun _ h => .ok none h
def oSome (f : ME) : MO := fun τ h => match f τ h with
  | .ok (.int i) h1 => .ok (some i) h1
  | _ => .bad
theorem po_imp {e : Option Expr} {t t' : TO} (h : PO X e t) (i : ∀ σ H Q, t' σ H Q → t σ H Q) : PO X e t' := ⟨fun pins s σ H Q I q => h.run pins s σ H Q I (i _ _ _ q)⟩
theorem xoNo : PO X none (TMO Y oNo) := po_imp po_none fun σ H Q q => by
  obtain ⟨ρ, τ, h, t, h', G, e, to⟩ := q
  cases e
  exact to.to ρ H _ .refl G.hr rfl
theorem xoSome {e : Expr} {f : ME} (he : PE X e (TM Y f)) : PO X (some e) (TMO Y (oSome f)) := po_imp (po_some he) fun σ H Q q => by
  obtain ⟨ρ, τ, h, t, h', G, e, to⟩ := q
  unfold oSome at e
  split at e
  · rename_i i h1 e1
    cases e
    exact ⟨ρ, τ, h, _, _, G, e1, ⟨fun ρ1 H1 v ev hr r => by cases r; exact ⟨_, rfl, to.to ρ1 H1 _ ev hr rfl⟩⟩⟩
  · cases e
def cutT (xs : List T) (lo hi : Option Int) : List T := (xs.drop (HT.sIx xs.length 0 lo)).take (HT.sIx xs.length xs.length hi - HT.sIx xs.length 0 lo)
def bSl (a : T) (lo hi : Option Int) (h : VH) : Res T := match a with
  | .tup ts => .ok (.tup (cutT ts lo hi)) h
  | .arg ts => .ok (.lst (cutT ts lo hi)) h
  | .str z => .ok (.str (cutS z lo hi)) h
  | a => match listOf h a with
    | some ts => .ok (.lst (cutT ts lo hi)) h
    | none => .bad
def eSl (f : ME) (lo hi : MO) : ME := fun τ h => match f τ h with
  | .ok a h1 => (match lo τ h1 with
    | .ok l h2 => (match hi τ h2 with
      | .ok u h3 => bSl a l u h3
      | .bad => .bad)
    | .bad => .bad)
  | .bad => .bad
def rSl (K : PySem.W.Frag) : V → Option Int → Option Int → Hp → VK → Prop := fun x lo hi H Q => rSlL K x lo hi H Q ∨ rSlA K x lo hi H Q ∨ rSlS x lo hi H Q
theorem oSl : SlR X (rSl X.K) := sl_list.or (sl_tupA.or sl_str)
theorem cut_rps {ρ : Rh} {H : Hp} {ts : List T} {vs : List V} (lo hi : Option Int) (r : Rps Y ρ H ts vs) : Rps Y ρ H (cutT ts lo hi) (cutV vs lo hi) := by
  unfold cutT cutV
  rw [r.length]
  exact (r.drop _).take _
theorem cut_whole (vs : List V) (lo hi : Option Int) (h : HT.sIx vs.length 0 lo = 0 ∧ HT.sIx vs.length vs.length hi = vs.length) : cutV vs lo hi = vs := by
  unfold cutV
  rw [h.1, h.2]; simp
theorem sl_ok {ρ : Rh} {H : Hp} {a : T} {va : V} {lo hi : Option Int} {h h' : VH} {t : T} {Q : VK} (ra : Rp Y ρ H a va) (hr : HR Y ρ H h) (e : bSl a lo hi h = .ok t h') (to : To Y (Rp Y) ρ H t h' Q) : rSl Y.K va lo hi H Q := by
  unfold bSl at e
  split at e
  · cases e
    cases ra with
    | tup ta rs =>
      have rc := cut_rps lo hi rs
      refine .inr (.inl ⟨_, _, rfl, ta.sq, fun w => ?_, fun w p hp => ?_⟩)
      · rw [cut_whole _ _ _ w] at rc
        exact to.to ρ H _ .refl hr (.tup ta rc)
      · obtain ⟨n1, n2⟩ := newT hr rc (Nat.le_trans (cutV_length _ _ _) ta.1) hp
        exact to.to ρ _ _ (Ev.new hp) n1 n2
  · cases e
    cases ra with
    | arg ta rs =>
      refine .inl ⟨_, _, rfl, ta.sq, fun p hp => ?_⟩
      obtain ⟨n1, n2⟩ := newL' hr (cut_rps lo hi rs) (Nat.le_trans (cutV_length _ _ _) ta.1) hp
      exact to.to ρ _ _ (Ev.new hp) n1 n2
  · cases e
    cases ra with
    | str hz => exact .inr (.inr ⟨_, rfl, by rw [sizeLine_eq]; omega, to.to ρ H _ .refl hr (.str (Nat.le_trans (cutS_length _ _ _) hz))⟩)
  · split at e
    · rename_i ts e1
      cases e
      obtain ⟨b, vb, rfl, hb, hz, rb⟩ := listOf_ok ra hr e1
      refine .inl ⟨b, vb, rfl, hb, fun p hp => ?_⟩
      obtain ⟨n1, n2⟩ := newL' hr (cut_rps lo hi rb) (Nat.le_trans (cutV_length _ _ _) hz) hp
      exact to.to ρ _ _ (Ev.new hp) n1 n2
    · cases e
theorem xSl {e : Expr} {lo hi : Option Expr} {f : ME} {l u : MO} {pos p2 : Pos} (hK : X.K = Y.K) (he : PE X e (TM Y f)) (hl : PO X lo (TMO Y l)) (hu : PO X hi (TMO Y u)) : PE X (.Subscript e (.Slice lo hi none p2) pos) (TM Y (eSl f l u)) :=
  pe_imp (pe_slice (r := rSl Y.K) (by rw [← hK]; exact oSl) he hl hu) fun σ H Q q => by
    obtain ⟨ρ, τ, h, t, h', G, e, to⟩ := q
    unfold eSl at e
    cases e1 : f τ h with
    | bad => simp only [e1] at e; cases e
    | ok a h1 =>
      simp only [e1] at e
      cases e2 : l τ h1 with
      | bad => simp only [e2] at e; cases e
      | ok lv h2 =>
        simp only [e2] at e
        cases e3 : u τ h2 with
        | bad => simp only [e3] at e; cases e
        | ok uv h3 =>
          simp only [e3] at e
          refine ⟨ρ, τ, h, a, h1, G, e1, ⟨fun ρ1 H1 va ev hr1 ra => ⟨ρ1, τ, h1, lv, h2, G.ev ev hr1, e2, ⟨fun ρ2 H2 vl ev2 hr2 el => ?_⟩⟩⟩⟩
          subst el
          refine ⟨ρ2, τ, h2, uv, h3, G.ev (ev.trans ev2) hr2, e3, ⟨fun ρ3 H3 vu ev3 hr3 eu => ?_⟩⟩
          subst eu
          exact sl_ok (ra.ev (ev2.trans ev3).toEvR) hr3 e (to.ev ((ev.trans ev2).trans ev3))
def eNeg (f : ME) : ME := fun τ h => match f τ h with
  | .ok (.int i) h1 => .ok (.int (-i)) h1
  | _ => .bad
end
end TL
namespace TL
open PySem PySem.Spec L2
section
variable {X : Cx} {Y : Wd}
theorem xNeg {a : Expr} {f : ME} {pos : Pos} (ha : PE X a (TM Y f)) : PE X (.UnaryOp .USub a pos) (TM Y (eNeg f)) := pe_imp (pe_un un_neg ha) fun σ H Q q => by
  obtain ⟨ρ, τ, h, t, h', G, e, to⟩ := q
  unfold eNeg at e
  split at e
  · rename_i i h1 e1
    cases e
    exact ⟨ρ, τ, h, _, _, G, e1, ⟨fun ρ1 H1 v ev hr r => by cases r; exact ⟨_, rfl, to.to ρ1 H1 _ ev hr (.int _)⟩⟩⟩
  · cases e
def eChain (b b' : T → T → VH → Res T) (f g k : ME) : ME := fun τ h => match f τ h with
  | .ok x h1 => (match g τ h1 with
    | .ok y h2 => (match b x y h2 with
      | .ok (.bl true) h3 => (match k τ h3 with
        | .ok z h4 => b' y z h4
        | .bad => .bad)
      | .ok (.bl false) h3 => .ok (.bl false) h3
      | _ => .bad)
    | .bad => .bad)
  | .bad => .bad
def mCall (b : List T → VH → Res (List T)) (g : MA) : MA := fun τ h => match g τ h with
  | .ok ts h1 => b ts h1
  | .bad => .bad
theorem lay {ρ : Rh} {H : Hp} {h : VH} {us : List T} {ws : List V} {Q : VK} (hr : HR Y ρ H h) (rs : Rps Y ρ H us ws) (hz : ws.length ≤ sizeLine)
    (to : ∀ ρ' H' D ws, Ev ρ H ρ' H' → HR Y ρ' H' h → H D = none → LstAt Y ρ' H' D ws → Rps Y ρ' H' us ws → HR Y (ρ'.push D) H' (h ++ [.lst us]) → Q (.ref D) H') : ∀ p, H p = none → Q (.ref p) (upd H p (.lst ws)) := fun p hp => by
  obtain ⟨n1, n2, n3, n4⟩ := newL hr rs hz hp
  exact to ρ _ p ws (Ev.new hp) n1 hp n2 n3 n4
def fLen (ts : List T) (h : VH) : Res T := match ts with
  | [.str z] => .ok (.int z.length) h
  | [t] => (match seqOf h t with
    | some us => .ok (.int us.length) h
    | none => .bad)
  | _ => .bad
theorem rps_one {ρ : Rh} {H : Hp} {t : T} {vs : List V} (r : Rps Y ρ H [t] vs) : ∃ v, vs = [v] ∧ Rp Y ρ H t v := by
  cases r with
  | cons a b => cases b; exact ⟨_, rfl, a⟩
theorem rps_two {ρ : Rh} {H : Hp} {t u : T} {vs : List V} (r : Rps Y ρ H [t, u] vs) : ∃ v w, vs = [v, w] ∧ Rp Y ρ H t v ∧ Rp Y ρ H u w := by
  cases r with
  | cons a b => obtain ⟨w, rfl, r⟩ := rps_one b; exact ⟨_, _, rfl, a, r⟩
def rLen (K : PySem.W.Frag) : List V → Hp → VK → Prop := fun xs H Q => ∃ x n, xs = [x] ∧ LenV K x H n ∧ Q (.int n) H
theorem ct_len : CT Y (rLen Y.K) fLen := fun ρ H ts vs h t h' Q r hr e to => by
  unfold fLen at e
  split at e
  · cases e
    obtain ⟨v, rfl, rv⟩ := rps_one r
    cases rv with
    | str hz => exact ⟨_, _, rfl, ⟨by rw [sizeLine_eq]; omega, rfl⟩, to.to ρ H _ .refl hr (.int _)⟩
  · split at e
    · rename_i us e1
      cases e
      obtain ⟨v, rfl, rv⟩ := rps_one r
      obtain ⟨a, ws, rfl, hs, hz, rs⟩ := seqOf_ok rv hr e1
      refine ⟨_, us.length, rfl, ?_, to.to ρ H _ .refl hr (.int _)⟩
      rw [← rs.length]
      exact hs.elim (fun z => .inl ⟨ws, z, rfl⟩) fun z => .inr ⟨ws, z, rfl⟩
    · cases e
  · cases e
def fList (ts : List T) (h : VH) : Res (List T) := match ts with
  | [t] => (match seqOf h t with
    | some us => .ok us h
    | none => .bad)
  | _ => .bad
def fTuple (ts : List T) (h : VH) : Res T := match ts with
  | [t] => (match seqOf h t with
    | some us => .ok (.tup us) h
    | none => .bad)
  | _ => .bad
def blsOf : List T → Option (List Bool)
  | [] => some []
  | .bl i :: r => (blsOf r).map (i :: ·)
  | _ => none
theorem blsOf_ok {ρ : Rh} {H : Hp} : ∀ {ts : List T} {vs : List V} {ns : List Bool}, Rps Y ρ H ts vs → blsOf ts = some ns → vs = ns.map V.bl
  | [], _, ns, r, e => by cases r; cases e; rfl
  | t :: ts, _, ns, r, e => by
    cases r with
    | cons a b =>
      cases t with
      | bl i =>
        simp only [blsOf, Option.map_eq_some_iff] at e
        obtain ⟨ms, e1, rfl⟩ := e
        cases a
        rw [blsOf_ok b e1]; rfl
      | _ => cases e
def fBls (g : List Bool → Bool) (ts : List T) (h : VH) : Res T := match ts with
  | [t] => (match listOf h t with
    | some us => (match blsOf us with
      | some ns => .ok (.bl (g ns)) h
      | none => .bad)
    | none => .bad)
  | _ => .bad
def fAll := fBls fun bs => bs.all id
def rBls (K : PySem.W.Frag) (g : List Bool → Bool) : List V → Hp → VK → Prop := fun vs H Q => ∃ (a : Addr) (bs : List Bool), vs = [V.ref a] ∧ SqL K H a (bs.map V.bl) ∧ Q (.bl (g bs)) H
theorem ct_bls (g : List Bool → Bool) : CT Y (rBls Y.K g) (fBls g) := fun ρ H ts vs h t h' Q r hr e to => by
  unfold fBls at e
  split at e
  · split at e
    · rename_i us e1
      split at e
      · rename_i ns e2
        cases e
        obtain ⟨v, rfl, rv⟩ := rps_one r
        obtain ⟨a, ws, rfl, hs, hz, rs⟩ := listOf_ok rv hr e1
        rw [blsOf_ok rs e2] at hs
        exact ⟨a, ns, rfl, hs, to.to ρ H _ .refl hr (.bl _)⟩
      · cases e
    · cases e
  · cases e
theorem ct_all : CT Y (rAll Y.K) fAll := ct_bls _
def fAbs (ts : List T) (h : VH) : Res T := match ts with
  | [.int i] => .ok (.int (if i < 0 then -i else i)) h
  | _ => .bad
theorem ct_abs : CT Y (fun xs H Q => ∃ i, xs = [V.int i] ∧ Q (.int (if i < 0 then -i else i)) H) fAbs := fun ρ H ts vs h t h' Q r hr e to => by
  unfold fAbs at e
  split at e
  · cases e
    obtain ⟨v, rfl, rv⟩ := rps_one r
    cases rv
    exact ⟨_, rfl, to.to ρ H _ .refl hr (.int _)⟩
  · cases e
def fInt (ts : List T) (h : VH) : Res T := match ts with
  | [.int i] => .ok (.int i) h
  | [.bl b] => .ok (.int (if b = true then 1 else 0)) h
  | [.str a] => (match intText? a with
    | some n => if a.length ≤ 640 then .ok (.int n) h else .bad
    | none => .bad)
  | _ => .bad
def rInt1 : List V → Hp → VK → Prop := fun xs H Q => (∃ i, xs = [V.int i] ∧ Q (.int i) H) ∨ ∃ k, xs = [V.bl k] ∧ Q (.int (if k = true then 1 else 0)) H
def rIntS : List V → Hp → VK → Prop := fun xs H Q => ∃ a n, xs = [V.str a] ∧ intText? a = some n ∧ a.length ≤ 640 ∧ Q (.int n) H
def rInt : List V → Hp → VK → Prop := fun xs H Q => rInt1 xs H Q ∨ rIntS xs H Q
theorem oInt : CallR X (.type "int") rInt := CallR.or (r := rInt1) (r' := rIntS) call_int1 call_int_str
theorem ct_int : CT Y rInt fInt := fun ρ H ts vs h t h' Q r hr e to => by
  unfold fInt at e
  split at e
  · cases e
    obtain ⟨v, rfl, rv⟩ := rps_one r
    cases rv
    exact .inl (.inl ⟨_, rfl, to.to ρ H _ .refl hr (.int _)⟩)
  · cases e
    obtain ⟨v, rfl, rv⟩ := rps_one r
    cases rv
    exact .inl (.inr ⟨_, rfl, to.to ρ H _ .refl hr (.int _)⟩)
  · split at e
    · rename_i n en
      split at e
      · rename_i hz
        cases e
        obtain ⟨v, rfl, rv⟩ := rps_one r
        cases rv
        exact .inr ⟨_, n, rfl, en, hz, to.to ρ H _ .refl hr (.int _)⟩
      · cases e
    · cases e
  · cases e
def fII (g : Int → Int → Int) (ts : List T) (h : VH) : Res T := match ts with
  | [.int i, .int j] => .ok (.int (g i j)) h
  | _ => .bad
def fMax2 := fII fun i j => if j > i then j else i
def fMin2 := fII fun i j => if j < i then j else i
theorem ct_II (g : Int → Int → Int) : CT Y (fun xs H Q => ∃ i j, xs = [V.int i, V.int j] ∧ Q (.int (g i j)) H) (fII g) := fun ρ H ts vs h t h' Q r hr e to => by
  unfold fII at e
  split at e
  · cases e
    obtain ⟨v, w, rfl, rv, rw'⟩ := rps_two r
    cases rv
    cases rw'
    exact ⟨_, _, rfl, to.to ρ H _ .refl hr (.int _)⟩
  · cases e
theorem ct_max2 : CT Y (fun xs H Q => ∃ i j, xs = [V.int i, V.int j] ∧ Q (.int (if j > i then j else i)) H) fMax2 := ct_II _
theorem ct_min2 : CT Y (fun xs H Q => ∃ i j, xs = [V.int i, V.int j] ∧ Q (.int (if j < i then j else i)) H) fMin2 := ct_II _
def fDivmod (ts : List T) (h : VH) : Res T := match ts with
  | [.int i, .int j] => if 0 < j ∧ Builtin.divisionGoesByPylong i j = false then .ok (.tup [.int (i / j), .int (i % j)]) h else .bad
  | _ => .bad
theorem ct_divmod : CT Y (fun xs H Q => ∃ i j, xs = [V.int i, V.int j] ∧ CDivP i j ∧ ∀ p, H p = none → Q (.ref p) (upd H p (.tup [.int (i / j), .int (i % j)]))) fDivmod := fun ρ H ts vs h t h' Q r hr e to => by
  unfold fDivmod at e
  split at e
  · split at e
    · rename_i hz
      cases e
      obtain ⟨v, w, rfl, rv, rw'⟩ := rps_two r
      cases rv
      cases rw'
      refine ⟨_, _, rfl, hz, fun p hp => ?_⟩
      obtain ⟨n1, n2⟩ := newT (vs := [.int _, .int _]) hr (.cons (.int _) (.cons (.int _) .nil)) (by rw [sizeLine_eq]; exact Nat.le_of_ble_eq_true rfl) hp
      exact to.to ρ _ _ (Ev.new hp) n1 n2
    · cases e
  · cases e
end
end TL
namespace TL
open PySem PySem.Spec L2
section
variable {X : Cx} {Y : Wd}
theorem wk_list {v : V} {t : T} {ρ : Rh} {H : Hp} {a : Addr} (r : Rp Y ρ H t (.ref a)) : Wk Y (Itl Y.K a) (fun h => listOf h t) ρ H := by
  refine ⟨fun ρ1 H1 h ts i u ev hr e ei => ?_, fun ρ1 H1 h ts i ev hr e hl => ?_⟩
  · obtain ⟨b, vs, eb, hs, hz, rs⟩ := listOf_ok (r.ev ev) hr e
    cases eb
    obtain ⟨w, ew, rw'⟩ := rs.get ei
    refine ⟨⟨vs, w, hs, ew⟩, fun x H' y => ?_⟩
    obtain ⟨rfl, hx⟩ := y
    have e2 := hx vs hs
    rw [ew] at e2
    cases e2
    exact ⟨.refl, hr, rw'⟩
  · obtain ⟨b, vs, eb, hs, hz, rs⟩ := listOf_ok (r.ev ev) hr e
    cases eb
    exact ⟨vs, hs, by rw [rs.length]; exact hl⟩
theorem wk_tup {t : T} {ρ : Rh} {H : Hp} {a : Addr} (r : Rp Y ρ H t (.ref a)) : Wk Y (Itt Y.K a) (fun _ => tupOf t) ρ H := by
  refine ⟨fun ρ1 H1 h ts i u ev hr e ei => ?_, fun ρ1 H1 h ts i ev hr e hl => ?_⟩
  · obtain ⟨b, vs, eb, hs, hz, rs⟩ := tupOf_ok (r.ev ev) e
    cases eb
    obtain ⟨w, ew, rw'⟩ := rs.get ei
    refine ⟨⟨vs, w, hs, ew⟩, fun x H' y => ?_⟩
    obtain ⟨rfl, hx⟩ := y
    have e2 := hx vs hs
    rw [ew] at e2
    cases e2
    exact ⟨.refl, hr, rw'⟩
  · obtain ⟨b, vs, eb, hs, hz, rs⟩ := tupOf_ok (r.ev ev) e
    cases eb
    exact ⟨vs, hs, by rw [rs.length]; exact hl⟩
def signsT (x : Str) : List T := x.cps.toList.map fun c => .str ⟨#[c]⟩
theorem wk_str {x : Str} {ρ : Rh} {H : Hp} : Wk Y (Its x) (fun _ => some (signsT x)) ρ H := by
  refine ⟨fun ρ1 H1 h ts i u ev hr e ei => ?_, fun ρ1 H1 h ts i ev hr e hl => ?_⟩
  · cases e
    unfold signsT at ei
    rw [List.getElem?_map] at ei
    cases q : x.cps.toList[i]? with
    | none => rw [q] at ei; cases ei
    | some c =>
      rw [q] at ei
      cases ei
      rw [Array.getElem?_toList] at q
      refine ⟨(Array.getElem?_eq_some_iff.mp q).1, fun v H' y => ?_⟩
      obtain ⟨rfl, c', hc, rfl⟩ := y
      rw [q] at hc
      cases hc
      exact ⟨.refl, hr, .str (by show (#[_] : Array Nat).size ≤ _; simp)⟩
  · cases e
    show x.cps.size ≤ i
    unfold signsT at hl
    simpa using hl
def seqS (h : VH) : T → Option (List T)
  | .str x => some (signsT x)
  | .arg _ => none
  | t => seqOf h t
theorem wk_at {J : It} {rd rd' : VH → Option (List T)} {ρ : Rh} {H : Hp} (w : Wk Y J rd ρ H) (e : ∀ h, rd' h = rd h) : Wk Y J rd' ρ H :=
  ⟨fun ρ1 H1 h ts i u ev hr q => w.go ρ1 H1 h ts i u ev hr (by rw [← e]; exact q), fun ρ1 H1 h ts i ev hr q => w.stop ρ1 H1 h ts i ev hr (by rw [← e]; exact q)⟩
def walkable (h : VH) (t : T) : Bool := (seqS h t).isSome
def iSeqC (f : ME) : MI := fun τ h => match f τ h with
  | .ok t h1 => if walkable h1 t = true then .ok (fun h => seqS h t) h1 else .bad
  | .bad => .bad
theorem xiSeq {tg e : Expr} {f : ME} (hK : X.K = Y.K) (he : PE X e (TM Y f)) : PI X tg e (TMI Y (iSeqC f)) := by
  constructor
  intro pins s σ H R I q
  obtain ⟨ρ, τ, h, rd, h', G, e, to⟩ := q
  unfold iSeqC at e
  cases e1 : f τ h with
  | bad => rw [e1] at e; cases e
  | ok t h1 =>
    rw [e1] at e
    by_cases hw : walkable h1 t = true
    case neg => simp only [hw] at e; cases e
    simp only [hw, if_true] at e
    cases e
    have asList : (∀ ρ1 H1 v, Ev ρ H ρ1 H1 → HR Y ρ1 H1 h' → Rp Y ρ1 H1 t v → ∃ a, v = .ref a ∧ (∃ xs, SqL X.K H1 a xs) ∧ R (Itl X.K a) H1) → wpAny (model X.prog X.w) X.A (eval _ X.env) (fun v s1 => wpAny (model X.prog X.w) X.A (pyIter v) (PIE X pins σ tg R) X.xe s1) X.xe s :=
      fun k => (pi_list he).run pins s σ H R I ⟨ρ, τ, h, t, _, G, e1, ⟨fun ρ1 H1 v ev hr r => k ρ1 H1 v ev hr r⟩⟩
    cases t with
    | str z => exact (pi_str he).run pins s σ H R I ⟨ρ, τ, h, _, _, G, e1, ⟨fun ρ1 H1 v ev hr r => by cases r; exact ⟨_, rfl, to ρ1 H1 _ ev hr wk_str⟩⟩⟩
    | tup ts =>
      refine (pi_tup he).run pins s σ H R I ⟨ρ, τ, h, _, _, G, e1, ⟨fun ρ1 H1 v ev hr r => ?_⟩⟩
      rw [hK]
      cases r with
      | tup ta rs => exact ⟨_, rfl, ⟨_, ta.sq⟩, to ρ1 H1 _ ev hr (wk_at (wk_tup (.tup ta rs)) fun _ => rfl)⟩
    | lst ts =>
      refine asList fun ρ1 H1 v ev hr r => ?_
      rw [hK]
      cases r with
      | lst la rs => exact ⟨_, rfl, ⟨_, la.sq⟩, to ρ1 H1 _ ev hr (wk_at (wk_list (v := .non) (.lst la rs)) fun _ => rfl)⟩
    | ref n =>
      refine asList fun ρ1 H1 v ev hr r => ?_
      rw [hK]
      obtain ⟨ts, ets⟩ := Option.isSome_iff_exists.mp (show (seqS h' (.ref n)).isSome = true from hw)
      obtain ⟨b, vs, eb, hs, hz, rs⟩ := listOf_ok r hr (show listOf _ _ = some ts from ets)
      subst eb
      exact ⟨_, rfl, ⟨_, hs⟩, to ρ1 H1 _ ev hr (wk_at (wk_list (v := .non) r) fun _ => rfl)⟩
    | _ => cases hw
def rangeT (lo : Int) (n : Nat) : List T := (List.range n).map fun (i : Nat) => T.int (lo + i)
theorem wk_range {lo : Int} {n : Nat} {ρ : Rh} {H : Hp} : Wk Y (Itr lo n) (fun _ => some (rangeT lo n)) ρ H := by
  refine ⟨fun ρ1 H1 h ts i u ev hr e ei => ?_, fun ρ1 H1 h ts i ev hr e hl => ?_⟩
  · cases e
    unfold rangeT at ei
    rw [List.getElem?_map] at ei
    have hi : i < n := by
      by_cases c : i < n
      · exact c
      · rw [List.getElem?_eq_none (by simp; omega)] at ei; cases ei
    rw [List.getElem?_range hi] at ei
    cases ei
    refine ⟨hi, fun v H' y => ?_⟩
    obtain ⟨rfl, rfl⟩ := y
    exact ⟨.refl, hr, .int _⟩
  · cases e
    unfold rangeT at hl
    show n ≤ i
    simpa using hl
def iRange1 (g : MA) : MI := fun τ h => match g τ h with
  | .ok [.int j] h1 => if -1000000000 ≤ j ∧ j ≤ 1000000000 then .ok (fun _ => some (rangeT 0 j.toNat)) h1 else .bad
  | _ => .bad
theorem xiRange1 {tg a : Expr} {g : MA} {p pos : Pos} (hg : Gl X "range") (hm : X.mg "range" = none) (ha : PA X [a] (TMA Y g)) (hs : starEach [a] X.env = [(false, eval a X.env)] := by rfl) : PI X tg (.Call (.Name "range" p) [a] [] pos) (TMI Y (iRange1 g)) :=
  pi_imp (pi_range1 hg hm ha hs) fun σ H R q => by
    obtain ⟨ρ, τ, h, rd, h', G, e, to⟩ := q
    unfold iRange1 at e
    split at e
    · rename_i j h1 e1
      split at e
      · rename_i hz
        cases e
        refine ⟨ρ, τ, h, _, _, G, e1, ⟨fun ρ1 H1 vs ev hr r => ?_⟩⟩
        obtain ⟨v, rfl, rv⟩ := rps_one r
        cases rv
        exact ⟨j, rfl, by omega, by omega, to ρ1 H1 _ ev hr wk_range⟩
      · cases e
    · cases e
def enumT (ts : List T) : List T := ts.mapIdx fun i t => .tup [.int (i : Nat), t]
theorem pair_new {ρ : Rh} {H : Hp} {h : VH} {p : Addr} {x y : V} {t u : T} (hr : HR Y ρ H h) (r1 : Rp Y ρ H t x) (r2 : Rp Y ρ H u y) (hp : H p = none) : Ev ρ H ρ (upd H p (.tup [x, y])) ∧ HR Y ρ (upd H p (.tup [x, y])) h ∧ Rp Y ρ (upd H p (.tup [x, y])) (.tup [t, u]) (.ref p) := by
  obtain ⟨n1, n2⟩ := newT (vs := [x, y]) hr (.cons r1 (.cons r2 .nil)) (by rw [sizeLine_eq]; exact Nat.le_of_ble_eq_true rfl) hp
  exact ⟨Ev.new hp, n1, n2⟩
theorem wk_enum {t : T} {ρ : Rh} {H : Hp} {a : Addr} (r : Rp Y ρ H t (.ref a)) : Wk Y (Ite Y.K a) (fun h => (listOf h t).map enumT) ρ H := by
  refine ⟨fun ρ1 H1 h ts i u ev hr e ei => ?_, fun ρ1 H1 h ts i ev hr e hl => ?_⟩
  · rw [Option.map_eq_some_iff] at e
    obtain ⟨us, e, rfl⟩ := e
    obtain ⟨b, vs, eb, hs, hz, rs⟩ := listOf_ok (r.ev ev) hr e
    cases eb
    unfold enumT at ei
    rw [List.getElem?_mapIdx] at ei
    cases q : us[i]? with
    | none => rw [q] at ei; cases ei
    | some z =>
      rw [q] at ei
      cases ei
      obtain ⟨w, ew, rw'⟩ := rs.get q
      refine ⟨⟨vs, w, hs, ew⟩, fun x H' y => ?_⟩
      obtain ⟨p, x', rfl, hp, rfl, hx⟩ := y
      have e2 := hx vs hs
      rw [ew] at e2
      cases e2
      exact pair_new hr (.int _) rw' hp
  · rw [Option.map_eq_some_iff] at e
    obtain ⟨us, e, rfl⟩ := e
    obtain ⟨b, vs, eb, hs, hz, rs⟩ := listOf_ok (r.ev ev) hr e
    cases eb
    refine ⟨vs, hs, ?_⟩
    rw [rs.length]
    unfold enumT at hl
    simpa using hl
def iEnumM (g : MA) : MI := fun τ h => match g τ h with
  | .ok [t] h1 => if (listOf h1 t).isSome = true then .ok (fun h => (listOf h t).map enumT) h1 else .bad
  | _ => .bad
theorem xiEnum {e : Expr} {g : MA} {p pos tpos : Pos} {elts : List Expr} {kk : Nat} (hK : X.K = Y.K) (hg : Gl X "enumerate") (hm : X.mg "enumerate" = none) (ha : PA X [e] (TMA Y g)) (hs : starEach [e] X.env = [(false, eval e X.env)] := by rfl) :
    PI X (.Tuple elts kk tpos) (.Call (.Name "enumerate" p) [e] [] pos) (TMI Y (iEnumM g)) := pi_imp (pi_enum hg hm ha hs) fun σ H R q => by
  obtain ⟨ρ, τ, h, rd, h', G, e, to⟩ := q
  unfold iEnumM at e
  split at e
  · rename_i t h1 e1
    split at e
    · rename_i hz
      cases e
      refine ⟨ρ, τ, h, _, _, G, e1, ⟨fun ρ1 H1 vs ev hr r => ?_⟩⟩
      obtain ⟨v, rfl, rv⟩ := rps_one r
      obtain ⟨ts, ets⟩ := Option.isSome_iff_exists.mp hz
      obtain ⟨b, vs, rfl, hs, hz, rs⟩ := listOf_ok rv hr ets
      rw [hK]
      exact ⟨b, vs, rfl, hs, to ρ1 H1 _ ev hr (wk_enum rv)⟩
    · cases e
  · cases e
def aStar (f : ME) (g : MA) : MA := fun τ h => match f τ h with
  | .ok t h1 => (match seqOf h1 t with
    | some ts => (match g τ h1 with
      | .ok us h2 => .ok (ts ++ us) h2
      | .bad => .bad)
    | none => .bad)
  | .bad => .bad
def sPar3 (i j l : Nat) (g : MA) : MS := fun τ h => match g τ h with
  | .ok [t, u, w] h1 => .nx (((τ.set i (some t)).set j (some u)).set l (some w)) h1
  | _ => .bad
end
end TL
namespace TL
open PySem PySem.Spec L2
section
variable {X : Cx} {Y : Wd}
def MT (Y : Wd) (ty : String) (r : V → List V → Hp → VK → Prop) (b : T → List T → VH → Res T) : Prop := ∀ ρ0 H0 h0 ρ H o ts vo vs h t h' Q, Rp Y ρ0 H0 o vo → HR Y ρ0 H0 h0 → Ev ρ0 H0 ρ H → Rps Y ρ H ts vs → HR Y ρ H h → b o ts h = .ok t h' → To Y (Rp Y) ρ H t h' Q → r vo vs H Q
def tyT (h : VH) (ty : String) : T → Bool
  | .str _ => ty == "str"
  | .lst _ => ty == "list"
  | .ref n => match h[n]? with
    | some (.lst _) => ty == "list"
    | some (.dct _) => ty == "dict"
    | some (.dcT _) => ty == "dict"
    | _ => false
  | _ => false
theorem tyT_ok {ρ : Rh} {H : Hp} {h : VH} {ty : String} {t : T} {v : V} (r : Rp Y ρ H t v) (hr : HR Y ρ H h) (e : tyT h ty t = true) : tyV Y.K ty v H := by
  cases r with
  | str hx => exact eq_of_beq e
  | lst la rs => exact .inl ⟨eq_of_beq e, _, la.sq⟩
  | @ref n a ha =>
    simp only [tyT] at e
    split at e
    · rename_i ts eo
      obtain ⟨vs, h1, hz, h2⟩ := hr.at_ n _ a eo ha
      exact .inl ⟨eq_of_beq e, vs, .inl (.inl h1)⟩
    · rename_i ts eo
      obtain ⟨vs, h1, h2⟩ := hr.at_ n _ a eo ha
      exact .inr (.inr (.inl ⟨eq_of_beq e, .inl ⟨vs, h1⟩⟩))
    · rename_i ts eo
      obtain ⟨vs, h1, h2⟩ := hr.at_ n _ a eo ha
      exact .inr (.inr (.inl ⟨eq_of_beq e, .inr ⟨vs, h1⟩⟩))
    · cases e
  | _ => cases e
def eMt (ty : String) (b : T → List T → VH → Res T) (f : ME) (g : MA) : ME := fun τ h => match f τ h with
  | .ok o h1 => if tyT h1 ty o = true then (match g τ h1 with
    | .ok ts h2 => b o ts h2
    | .bad => .bad) else .bad
  | .bad => .bad
theorem tm_mt {ty : String} {r : V → List V → Hp → VK → Prop} {b : T → List T → VH → Res T} (mt : MT Y ty r b) {f : ME} {g : MA} {σ : St} {H : Hp} {Q : VK} (q : TM Y (eMt ty b f g) σ H Q) : tBM Y.K ty r (TM Y f) (TMA Y g) σ H Q := by
  obtain ⟨ρ, τ, h, t, h', G, e, to⟩ := q
  unfold eMt at e
  cases e1 : f τ h with
  | bad => simp only [e1] at e; cases e
  | ok o h1 =>
    simp only [e1] at e
    split at e
    · rename_i hty
      refine ⟨ρ, τ, h, o, h1, G, e1, ⟨fun ρ1 H1 vo ev hr1 ro => ⟨tyT_ok ro hr1 hty, ?_⟩⟩⟩
      cases e2 : g τ h1 with
      | bad => simp only [e2] at e; cases e
      | ok ts h2 =>
        simp only [e2] at e
        exact ⟨ρ1, τ, h1, ts, h2, G.ev ev hr1, e2, ⟨fun ρ2 H2 vs ev2 hr2 rs => mt ρ1 H1 h1 ρ2 H2 o ts vo vs h2 t h' Q ro hr1 ev2 rs hr2 e (to.ev (ev.trans ev2))⟩⟩
    · cases e
theorem xMt {o e : Expr} {es : List Expr} {f : ME} {g : MA} {name : Str} {apos cpos : Pos} {ty id : String} {r : V → List V → Hp → VK → Prop} {b : T → List T → VH → Res T} (mt : MT Y ty r b) (hK : X.K = Y.K) (pa : PlainAttrs ty) (slot : Slot ty name id) (hty : typeOf (.builtin id) = pure (.type "method_descriptor")) (hm : MtR X id r) (ho : PE X o (TM Y f)) (ha : PA X (e :: es) (TMA Y g))
    (hbase : attributeBase o name X.env (eval o X.env) = eval o X.env := by rfl)
    (hfew : ((backTo cpos (starEach (e :: es) X.env)).all (fun x => !x.1) && (backToKw cpos (keywordEach [] X.env)).all (fun x => x.1.isSome)
      && decide ((e :: es).length + ([] : List Keyword).length + (if ([] : List Keyword).isEmpty then 0 else 1) < 30)) = true := by rfl)
    (hline : (apos.endLine == cpos.line) = true := by rfl) (hs : starEach (e :: es) X.env = (false, eval e X.env) :: starEach es X.env := by rfl) (hplain : (backTo cpos (starEach es X.env)).any (·.1) = false := by rfl) :
    PE X (.Call (.Attribute o name apos) (e :: es) [] cpos) (TM Y (eMt ty b f g)) := pe_imp (pe_bm pa slot hty hm ho ha hbase hfew hline hs hplain) fun σ H Q q => by rw [hK]; exact tm_mt mt q
def bSetL (o i t : T) (h : VH) : Res Unit := match o, i with
  | .ref n, .int k => (match h[n]? with
    | some (.lst xs) => (match ixN xs.length k with
      | some j => .ok () (h.set n (.lst (xs.set j t)))
      | none => .bad)
    | _ => .bad)
  | _, _ => .bad
theorem st_setL : ST Y rSetL bSetL := fun ρ H o i t vo vi v h h' Q ro ri rt hr e to => by
  unfold bSetL at e
  split at e
  · rename_i n k
    split at e
    · rename_i xs eo
      split at e
      · rename_i j ej
        cases e
        cases ri
        cases ro with
        | @ref _ a ha =>
          obtain ⟨ws, h1, hz1, rs⟩ := hr.at_ n _ a eo ha
          have e1 : Ev ρ H ρ (upd H a (.lst (ws.set j v))) := Ev.write (List.mem_of_getElem? ha) (by rw [h1]; exact fun _ _ z => nomatch z)
          exact ⟨a, ws, k, j, rfl, rfl, h1, by rw [rs.length]; exact ej, to ρ _ e1 (hr.write ha (by rw [h1]; exact fun _ _ z => nomatch z) ⟨_, upd_same, by rw [List.length_set]; exact hz1, (rs.set rt j).ev e1.toEvR⟩)⟩
      · cases e
    · cases e
  · cases e
theorem xGlob {x : Str} {v : V} {u : Value} {t : T} {pos : Pos} (hg : Gl X x) (hm : X.mg x = some u) (r : RelV v u) (rp : ∀ ρ H, Rp Y ρ H t v) (hd : (x == ("__debug__" : Str)) = false := by decide) : PE X (.Name x pos) (TM Y (eK t)) :=
  pe_imp (pe_glob hg hm r hd) fun σ H Q q => tm_k rp σ H Q q
def getI (h : VH) : T → Option (Nat × List T)
  | .obj c fs => some (c, fs)
  | .ref n => match h[n]? with
    | some (.ins c fs) => some (c, fs)
    | _ => none
  | _ => none
end
end TL
namespace TL
open PySem PySem.Spec L2
section
variable {X : Cx} {Y : Wd}
def eFld (c i : Nat) (f : ME) : ME := fun τ h => match f τ h with
  | .ok t h1 => (match getI h1 t with
    | some (c', fs) => if c' = c then (match fs[i]? with
      | some u => .ok u h1
      | none => .bad) else .bad
    | none => .bad)
  | .bad => .bad
def VO.lowR (n : Nat) : VO → Bool
  | .lst ts => lowRs n ts
  | .ins _ fs => lowRs n fs
  | .dct kvs => lowRs n (kvs.map (·.1)) && lowRs n (kvs.map (·.2))
  | .dcT kvs => lowRs n (kvs.map (·.2))
  | .dcF kvs => lowRs n (kvs.map (·.1)) && lowRs n (kvs.map (·.2))
  | .dcN kvs => lowRs n (kvs.map (·.1)) && lowRs n (kvs.map (·.2))
  | .tab _ => true
structure CF (K : PySem.W.Frag) (C : Addr) : Prop where
  cls : Cls K C
  at_ : PySem.W.findIn K (.ref C) "__class__" = some (some (.builtin "object.__class__"))
  sp : PySem.W.specialIn K (.builtin "object.__class__") "__get__" = some (some (.builtin "getset_descriptor.__get__"))
  tk : PySem.W.takesIn K (.builtin "object.__class__") = some true
  mro : PySem.W.mroIn K C (.type "object") = some true
def WdOk (Y : Wd) : Prop := ∀ c C, Y.cm c = some C → CF Y.K C
end
end TL
namespace TL
open PySem PySem.Spec L2 PyProof.Rows
section
variable {X : Cx} {Y : Wd}
structure KD (Y : Wd) (w : World) (d : Addr) (kvs : List (Str × T)) : Prop where
  kd : ∃ es n, KDict Y.K w d es n ∧ es.toList.map (fun e => match e.key with | .str x _ => some x | _ => none) = kvs.map fun q => some q.1
  val : ∀ k t, kvs.lookup k = some t → ∃ u v, PySem.W.nsIn Y.K d k = some (some u) ∧ RelV v u ∧ ∀ ρ H, Rp Y ρ H t v
  miss : ∀ k, kvs.lookup k = none → PySem.W.nsIn Y.K d k = some none
theorem KD.some {d : Addr} {w : World} {kvs : List (Str × T)} (D : KD Y w d kvs) (z : Str) : ∃ r, PySem.W.nsIn Y.K d z = some r ∧ r.isSome = (kvs.lookup z).isSome := by
  cases q : kvs.lookup z with
  | none => exact ⟨_, D.miss z q, rfl⟩
  | some t =>
    obtain ⟨u', v', e1, e2, e3⟩ := D.val _ _ q
    exact ⟨_, e1, rfl⟩
end
end TL
namespace TL
open PySem PySem.Spec L2
section
variable {X : Cx} {Y : Wd}
theorem ot_ne : OT Y (rEqP Y.K fun d e => !PyData.eqv d e) bNe := ot_eqG _
theorem ot_lt : OT Y (rO Y.K (fun d e => PySem.W.dataLt d e) fun i j => decide (i < j)) bLt := ot_ord _ _
theorem ot_gt : OT Y (rO Y.K (fun d e => PySem.W.dataLt e d) fun i j => decide (j < i)) bGt := ot_ord _ _
theorem ot_ge : OT Y (rO Y.K (fun d e => !PySem.W.dataLt d e) fun i j => decide (j ≤ i)) bGe := ot_ord _ _
theorem xGInt {x : Str} {i : Int} {pos : Pos} (hg : Gl X x) (h : ∃ t, X.mg x = some (.int i t)) (hd : (x == ("__debug__" : Str)) = false := by decide) : PE X (.Name x pos) (TM Y (eK (.int i))) := by
  obtain ⟨t, h⟩ := h
  exact xGlob hg h (v := .int i) ⟨t, rfl⟩ (fun _ _ => .int i) hd
def mMul (f g : ME) : MA := fun τ h => match f τ h with
  | .ok a h1 => (match g τ h1 with
    | .ok (.int k) h2 => (match listOf h2 a with
      | some x => if x.length * k.toNat ≤ 16777216 ∧ -1000000000 ≤ k ∧ k ≤ 1000000000 then .ok (List.replicate k.toNat x).flatten h2 else .bad
      | _ => .bad)
    | _ => .bad)
  | .bad => .bad
theorem xMulF {a c : Expr} {f g : ME} {pos : Pos} (ha : PE X a (TM Y f)) (hb : PE X c (TM Y g)) : PE X (.BinOp a .Mult c pos) (TMF Y (mMul f g)) := pe_imp (pe_op op_rep ha hb) fun σ H Q q => by
  obtain ⟨ρ, τ, h, us, h', G, e, to⟩ := q
  unfold mMul at e
  cases e1 : f τ h with
  | bad => simp only [e1] at e; cases e
  | ok o h1 =>
    simp only [e1] at e
    refine ⟨ρ, τ, h, o, h1, G, e1, ⟨fun ρ1 H1 vo ev hr1 ro => ?_⟩⟩
    split at e
    · rename_i k h2 e2
      refine ⟨ρ1, τ, h1, _, h2, G.ev ev hr1, e2, ⟨fun ρ2 H2 vk ev2 hr2 rk => ?_⟩⟩
      cases rk
      split at e
      · rename_i x ex
        split at e
        · rename_i hz
          cases e
          obtain ⟨p, va, rfl, hp, hza, ra⟩ := listOf_ok' (ro.ev ev2.toEvR) hr2 ex
          have hl := hz.1
          rw [← ra.length, ← sizeLine_eq] at hl
          have ev12 := ev.trans ev2
          exact ⟨p, k, va, rfl, rfl, hp, by omega, by omega, hl, lay hr2 (ra.rep _) (by rw [rep_len, Nat.mul_comm]; exact hl) fun ρ' H' D ws ev' hr' hD => to ρ' H' D ws (ev12.trans ev') hr' (ev12.fresh hD)⟩
        · cases e
      · cases e
    · cases e
end
def blkB (N : List Str) (sc scope : Scope) (own : List (Str × Nat)) : Bool := own.all (fun p => decide (N[p.2]? = some p.1)) && scope.names.all fun y => decide (scope.names.lookup y.1 = some y.2) && match y.2 with
  | .free => decide (sc.names.lookup y.1 = some .cell) || decide (sc.names.lookup y.1 = some .free)
  | .local => own.any (fun p => decide (p.1 = y.1)) || !N.any fun x => decide (x = y.1)
  | .cell => own.any (fun p => decide (p.1 = y.1)) || !N.any fun x => decide (x = y.1)
  | _ => true
theorem own_of {N : List Str} {own : List (Str × Nat)} {x : Str} (h : (own.any (fun p => decide (p.1 = x)) || !N.any fun y => decide (y = x)) = true) : x ∈ own.map (·.1) ∨ ¬ x ∈ N := by
  rw [Bool.or_eq_true] at h
  rcases h with h | h
  · obtain ⟨p, hp, e⟩ := List.any_eq_true.mp h
    exact .inl (List.mem_map.mpr ⟨p, hp, of_decide_eq_true e⟩)
  · refine .inr fun z => ?_
    have : (N.any fun y => decide (y = x)) = true := List.any_eq_true.mpr ⟨x, z, decide_eq_true rfl⟩
    rw [this] at h
    cases h
theorem blk_of {N : List Str} {sc scope : Scope} {own : List (Str × Nat)} (hk : scope.kind = .function) (h : blkB N sc scope own = true) : BlkOk N sc scope own := by
  unfold blkB at h
  rw [Bool.and_eq_true] at h
  refine ⟨hk, fun y hy => ?_, fun p hp => of_decide_eq_true (List.all_eq_true.mp h.1 p hp), fun y hy e => ?_, fun y hy e => ?_⟩
  · have q := List.all_eq_true.mp h.2 y hy
    rw [Bool.and_eq_true] at q
    exact of_decide_eq_true q.1
  · have q := List.all_eq_true.mp h.2 y hy
    rw [Bool.and_eq_true, e] at q
    have q2 := q.2
    simp only [Bool.or_eq_true] at q2
    exact q2.elim (fun z => .inl (of_decide_eq_true z)) fun z => .inr (of_decide_eq_true z)
  · have q := List.all_eq_true.mp h.2 y hy
    rw [Bool.and_eq_true] at q
    rcases e with e | e <;> rw [e] at q <;> exact own_of q.2
theorem bt_int : bootBuiltins "int" = some (.type "int") := by decide +kernel
theorem bt_len : bootBuiltins "len" = some (.builtin "len") := by decide +kernel
theorem bt_max : bootBuiltins "max" = some (.builtin "max") := by decide +kernel
theorem bt_min : bootBuiltins "min" = some (.builtin "min") := by decide +kernel
theorem bt_all : bootBuiltins "all" = some (.builtin "all") := by decide +kernel
theorem bt_abs : bootBuiltins "abs" = some (.builtin "abs") := by decide +kernel
theorem bt_divmod : bootBuiltins "divmod" = some (.builtin "divmod") := by decide +kernel
theorem bt_repr : bootBuiltins "repr" = some (.builtin "repr") := by decide +kernel
def fdOf (K : PySem.W.Frag) (f : Addr) : FuncData := match K.lookup f with
  | some ⟨_, _, .func fd, _⟩ => fd
  | _ => PySem.W.fnOf "" "" ⟨[], [], none, [], [], none, []⟩ [] ⟨.function, [], false, false, []⟩ .none .none .none .none none .none .none
theorem funD_at {K : PySem.W.Frag} {x qual : Str} {params : Arguments} {body : List Stmt} {scope : Scope} {dvs : List V} {kws : List (Str × V)} {f : Addr} {fd : FuncData} (F : FunD K x qual params body scope dvs kws f fd) : FunD K x qual params body scope dvs kws f (fdOf K f) := by
  obtain ⟨oc, od, dV, kV, doc, pm, an, cdv, ct, osl, e, lk, r⟩ := F.ex
  have : fdOf K f = fd := by
    unfold fdOf
    rw [lk, e]
  rw [this]
  exact F
theorem room80 {k : Nat} {A : Around} (h : Room k A) : A.units + 80 < cLine := by
  have := h.un
  omega
end TL
namespace TL
open PySem PySem.Spec L2
abbrev ClT := List (Nat × Str × List Str)
def wdOf (w : World) (cl : ClT) (K : PySem.W.Frag) (tl : List (Str × He.Defn) := []) : Wd := ⟨K, fun c => (cl.lookup c).map fun q => He.ga K q.1, fun c => match cl.lookup c with | some q => q.2 | none => [], w, fun q => (tl.lookup q).map fun p => (He.cT K p).2⟩
theorem lookup_mem2 {α β : Type} [BEq α] [LawfulBEq α] {l : List (α × β)} {k : α} {t : β} (h : l.lookup k = some t) : (k, t) ∈ l := by
  induction l with
  | nil => cases h
  | cons q r ih =>
    obtain ⟨a, b⟩ := q
    simp only [List.lookup] at h
    split at h
    · rename_i e
      cases h
      rw [eq_of_beq e]
      exact List.mem_cons_self
    · exact List.mem_cons_of_mem _ (ih h)
theorem wd_ok {w' : World} {cl : ClT} {K : PySem.W.Frag} {tl : List (Str × He.Defn)} (h : ∀ q ∈ cl, CF K (He.ga K q.2.1)) : WdOk (wdOf w' cl K tl) := fun c C e => by
  have e : (cl.lookup c).map (fun q => He.ga K q.1) = some C := e
  rw [Option.map_eq_some_iff] at e
  obtain ⟨q, hq, rfl⟩ := e
  exact h _ (lookup_mem2 hq)
theorem start_hr {Y : Wd} {H : Hp} (tb : ∀ q a, Y.tb q = some a → TbAt ⟨[], []⟩ H a q) : HR Y ⟨[], []⟩ H [] := by
  constructor
  · rfl
  · exact List.Pairwise.nil
  · intro a ha; cases ha
  · intro a ha; cases ha
  · intro n o a h1 h2; simp at h1
  · exact fun q a e => ⟨⟨List.not_mem_nil, List.not_mem_nil⟩, tb q a e⟩
theorem ints_rps {Y : Wd} {ρ : Rh} {H : Hp} : ∀ ns : List Int, Rps Y ρ H (ns.map T.int) (ns.map V.int)
  | [] => .nil
  | x :: xs => .cons (.int x) (ints_rps xs)
theorem start_rp {Y : Wd} {H : Hp} {a : Addr} {ns : List Int} (hS : SqL Y.K H a (ns.map V.int)) (hz : ns.length ≤ sizeLine) : Rp Y ⟨[], []⟩ H (.arg (ns.map T.int)) (.ref a) := by
  refine .arg (vs := ns.map V.int) ⟨by rw [List.length_map]; exact hz, ?_⟩ (ints_rps ns)
  rcases hS with h | ⟨o, its, n, h1, h2, h3, h4, h5, h6⟩
  · exact .inl ⟨⟨by simp, by simp⟩, h⟩
  · exact .inr ⟨o, its, n, h1, h2, h3, h4, h5, h6⟩
theorem law_sp {Y : Wd} {H : Hp} {a : Addr} {ns : List Int} {m : List T → VH → Res T} {h' : VH} (hS : SqL Y.K H a (ns.map V.int)) (hz : ns.length ≤ sizeLine) (e : m [.arg (ns.map T.int)] [] = .ok (.bl true) h') (nt : ∀ q, Y.tb q = none := by intro _; rfl) :
    spM Y m [.ref a] H (fun v _ => v = .bl true) fun _ _ _ => False := ⟨⟨[], []⟩, _, [], _, h', .cons (start_rp hS hz) .nil, start_hr (fun q a z => by rw [nt q] at z; cases z), e, ⟨fun ρ' H' v ev hr r => by cases r; rfl⟩⟩
end TL
namespace TL
open PySem L2
theorem forL_inv {rd : VH → Option (List T)} {g : MG} {body : MS} {ts : List T} (I : Nat → TS_ → VH → Prop) (hrd : ∀ i τ h, I i τ h → rd h = some ts)
    (step : ∀ i (hi : i < ts.length) τ h, I i τ h → ∃ τ1 h1 τ2 h2, g ts[i] τ h = .ok τ1 h1 ∧ (body τ1 h1 = .nx τ2 h2 ∨ body τ1 h1 = .ct τ2 h2) ∧ I (i + 1) τ2 h2) :
    ∀ (k i : Nat) τ h, i + k = ts.length → I i τ h → ∃ τ' h', forL rd g body ts.length k i τ h = .nx τ' h' ∧ I ts.length τ' h' := by
  intro k
  induction k with
  | zero =>
    intro i τ h hi hI
    have e : i = ts.length := by omega
    subst e
    exact ⟨τ, h, by simp [forL, hrd _ _ _ hI], hI⟩
  | succ k ih =>
    intro i τ h hi hI
    have hlt : i < ts.length := by omega
    have e1 : ts[i]? = some ts[i] := List.getElem?_eq_getElem hlt
    obtain ⟨τ1, h1, τ2, h2, a, b, c⟩ := step i hlt τ h hI
    obtain ⟨τ', h', q1, q2⟩ := ih (i + 1) τ2 h2 (by omega) c
    refine ⟨τ', h', ?_, q2⟩
    rcases b with b | b <;> simp [forL, hrd _ _ _ hI, e1, a, b, q1]
theorem sFor_inv {mi : MI} {g : MG} {body : MS} {τ : TS_} {h h1 : VH} {rd : VH → Option (List T)} {ts : List T} (I : Nat → TS_ → VH → Prop) (hm : mi τ h = .ok rd h1) (h0 : I 0 τ h1) (hrd : ∀ i τ h, I i τ h → rd h = some ts)
    (step : ∀ i (hi : i < ts.length) τ h, I i τ h → ∃ τ1 h1 τ2 h2, g ts[i] τ h = .ok τ1 h1 ∧ (body τ1 h1 = .nx τ2 h2 ∨ body τ1 h1 = .ct τ2 h2) ∧ I (i + 1) τ2 h2) :
    ∃ τ' h', sFor mi g body τ h = .nx τ' h' ∧ I ts.length τ' h' := by
  obtain ⟨τ', h', q1, q2⟩ := forL_inv I hrd step ts.length 0 τ h1 (by omega) h0
  exact ⟨τ', h', by simp [sFor, hm, hrd _ _ _ h0, q1], q2⟩
theorem range_at {lo : Int} {n i : Nat} (hi : i < (rangeT lo n).length) : i < n ∧ (rangeT lo n)[i] = .int (lo + i) := by
  have hl : i < n := by simpa [rangeT] using hi
  exact ⟨hl, by simp [rangeT]⟩
theorem range_len (lo : Int) (n : Nat) : (rangeT lo n).length = n := by simp [rangeT]
theorem seq_nx {f g : MS} {τ τ1 : TS_} {h h1 : VH} (e : f τ h = .nx τ1 h1) : sSeq f g τ h = g τ1 h1 := by unfold sSeq; rw [e]
theorem defM_rt {n p : Nat} {f : MS} {ts : List T} {h h' : VH} {t : T} (hl : ts.length = p) (e : f (startT n ts) h = .rt t h') : defM n p f ts h = .ok t h' := by unfold defM; rw [if_pos hl, e]
theorem set_ok {i : Nat} {f : ME} {τ : TS_} {h h1 : VH} {t : T} (e : f τ h = .ok t h1) : sSet i f τ h = .nx (τ.set i (some t)) h1 := by unfold sSet; rw [e]
theorem ret_ok {f : ME} {τ : TS_} {h h1 : VH} {t : T} (e : f τ h = .ok t h1) : sRet f τ h = .rt t h1 := by unfold sRet; rw [e]
theorem call_ok {b : List T → VH → Res T} {g : MA} {τ : TS_} {h h1 : VH} {ts : List T} (e : g τ h = .ok ts h1) : eCall b g τ h = b ts h1 := by unfold eCall; rw [e]
theorem cons_ok {f : ME} {g : MA} {τ : TS_} {h h1 h2 : VH} {t : T} {ts : List T} (e : f τ h = .ok t h1) (e2 : g τ h1 = .ok ts h2) : aCons f g τ h = .ok (t :: ts) h2 := by unfold aCons; simp only [e, e2]
theorem test_ok {f : ME} {τ : TS_} {h h1 : VH} {b : Bool} (e : f τ h = .ok (.bl b) h1) : bTest f τ h = .ok b h1 := by unfold bTest; simp only [e]
theorem eL_ok {f : MA} {τ : TS_} {h h1 : VH} {ts : List T} (e : f τ h = .ok ts h1) : eL f τ h = .ok (.lst ts) h1 := by unfold eL; simp only [e]
theorem ix_nn {α : Type} {xs : List α} {i : Int} (h0 : 0 ≤ i) (h1 : i < xs.length) : atI xs i = xs[i.toNat]? := by
  unfold atI ixN
  rw [if_pos h0, if_pos h1]
  rfl
end TL
namespace TL
open PySem PySem.Spec L2 PyProof.Rows
abbrev Quiet (A : Around) : Prop := A.guards = some []
structure FnQ (P : Program) (w : World) (K : PySem.W.Frag) (mg : Str → Option Value) (base : Heap) (Y : Wd) (k : Nat) (f : Addr) (fd : FuncData) (ps : List Str) (m : List T → VH → Res T) : Prop where
  many : ∀ ts h t h', m ts h = .ok t h' → ts.length = ps.length
  goes : ∀ (A : Around), Quiet A → Room k A → ∀ (outer : List Env) (s : Shared) (H : Hp), Env0 P w K mg base A outer s H → ∀ (args : Args) (us : List Value) (vs : List V), BindsTo s fd args (ps.zip us) → Vals vs us →
    ∀ Q : VK, spM Y m vs H Q E0 → codeAny (model P w) A (.call (.ref f) args) (CR CX0 outer P w H s Q E0) s
section
variable {P : Program} {w : World} {K : PySem.W.Frag} {mg : Str → Option Value} {base : Heap} {Y : Wd} {k : Nat} {f : Addr} {fd : FuncData} {ps N : List Str} {m : List T → VH → Res T}
theorem spM_many {vs : List V} {H : Hp} {Q : VK} {E : XK} {n : Nat} (many : ∀ ts h t h', m ts h = .ok t h' → ts.length = n) (q : spM Y m vs H Q E) : vs.length = n :=
  let ⟨_, ts, h, t, h', r, _, e, _⟩ := q
  r.length.trans (many ts h t h' e)
theorem FnQ.of (F : FnOk P w K mg base CX0 k f fd ps (spM Y m)) (many : ∀ ts h t h', m ts h = .ok t h' → ts.length = ps.length) : FnQ P w K mg base Y k f fd ps m :=
  ⟨many, fun A _ hr outer s H e0 args us vs b r Q q => F.run A outer s H args us vs Q E0 hr e0 b r q⟩
theorem defM_many {n p : Nat} {g : MS} {ts : List T} {h h' : VH} {t : T} (e : defM n p g ts h = .ok t h') : ts.length = p := by
  unfold defM at e
  split at e
  · assumption
  · cases e
theorem ends_ok {N : List Str} {qual : Str} {scope : Scope} {cd : Value} {A : Around} {outer : List Env} {s s' : Shared} {H : Hp} {Q : VK} {r : Flow}
    (z : SP (cxOf CX0 P w K mg base N qual scope f cd A outer s H E0) [] { nx := fun _ H' => Q .non H', rt := Q } r s') : ∃ u, (match r with | .next => some Value.none | .ret u => some u | _ => none) = some u ∧ CE outer P w H s Q u s' := by
  cases r with
  | next => exact let ⟨_, H', J, q⟩ := z; ⟨_, rfl, .non, H', J.os, J.bare, J.base, J.hok, rfl, q⟩
  | ret u => exact let ⟨v, _, H', J, r, q⟩ := z; ⟨_, rfl, v, H', J.os, J.bare, J.base, J.hok, r, q⟩
  | brk => exact let ⟨_, _, _, q⟩ := z; q.elim
  | cont => exact let ⟨_, _, _, q⟩ := z; q.elim
theorem tms_start {N : List Str} {p : Nat} {g : MS} {vs : List V} {H : Hp} {Q : VK} (q : spM Y (defM N.length p g) vs H Q E0) : TMS Y g { nx := fun _ H' => Q .non H', rt := Q } (L2.start N vs) H := by
  obtain ⟨ρ, ts, h, t, h', r, hr, e, to⟩ := q
  have hl := defM_many e
  refine ⟨ρ, startT N.length ts, h, ⟨sl_start r, hr⟩, ?_⟩
  unfold defM at e
  rw [if_pos hl] at e
  cases z : g (startT N.length ts) h with
  | nx τ' h1 => rw [z] at e; cases e; exact fun ρ' H' σ' ev hr' _ => to.to ρ' H' .non ev hr' .non
  | rt u h1 => rw [z] at e; cases e; exact fun ρ' H' v ev hr' r' => to.to ρ' H' v ev hr' r'
  | bk τ' h1 => rw [z] at e; cases e
  | ct τ' h1 => rw [z] at e; cases e
  | bad => rw [z] at e; cases e
theorem fnQ {x qual : Str} {params : Arguments} {body : List Stmt} {scope : Scope} {dvs : List V} {kws : List (Str × V)} {g : MS} (F : FunD K x qual params body scope dvs kws f fd) (S : FnScope N ps scope) (n p : Nat) (hn : N.length = n := by rfl) (hp : ps.length = p := by rfl)
    (hb : ∀ (cdv : Value) (A : Around) (outer : List Env) (s : Shared) (H : Hp) (E : XK), Quiet (A.deeper (envOfC qual scope s.heap.objs.size f cdv)) → Room k (A.deeper (envOfC qual scope s.heap.objs.size f cdv)) → PSs (cxOf CX0 P w K mg base N qual scope f cdv A outer s H E).nox body (TMS Y g)) :
    FnQ P w K mg base Y (k + 1) f fd ps (defM n p g) := by
  subst hn hp
  refine ⟨fun ts h t h' e => defM_many e, ?_⟩
  intro A quiet hr outer s H e0 args us vs bound r Q q
  have hl : vs.length = ps.length := spM_many (fun ts h t h' e => defM_many e) q
  obtain ⟨oc, od, dV, kV, doc, pm, an, cdv, ct, osl, rfl, lk, hcd, -⟩ := F.ex
  have older : ∀ b o, base.get? b = some o → s.heap.get? b = some o := fun b o e => (e0.bs b o e).1
  have KX := e0.mod.kin.keeps older
  refine codeAny_call_function hr.depth (KX f _ lk) rfl S.co S.gen rfl (PySem.W.codeRec_of KX hcd) (bound _ _ _ _ (wpAny_newFunctionEnv_cells S.kind ?kinds ?body))
  case kinds =>
    rintro ⟨nm, u⟩ hy
    have hy := (List.of_mem_zip hy).1
    exact (S.par nm hy).imp id fun c => ⟨c, PySem.W.cellsFrom_some _ _ _ (.inl c)⟩
  case body =>
    rintro _ rfl s1 inside
    have run := ((hb cdv A outer s H E0 quiet (hr.deeper _)).nox).run [] s1 (L2.start N vs) H _ (inv_start S hr.hd e0 hl r inside) (tms_start q)
    refine ⟨(e0.mod.nolimit.keeps older).keeps inside.toInCall.keep, codeAny_func (wpAny_mono run ?_ fun _ _ z => z)⟩
    intro fl s' z
    obtain ⟨u, eu, ce⟩ := ends_ok z
    cases fl <;> cases eu <;> exact ce
end
section
variable {X : Cx} {Y : Wd}
theorem xCallQ {k : Nat} {f : Addr} {fd : FuncData} {ps : List Str} {m : List T → VH → Res T} {x : Str} {p pos : Pos} {e : Expr} {es : List Expr} {g : MA} (F : FnQ X.prog X.w X.K X.mg X.base Y k f fd ps m) (quiet : Quiet X.A) (hr : Room k X.A) (hg : Gl X x) (hm : X.mg x = some (.ref f)) (kp : PySem.W.keepIn X.K (.ref f) = true)
    (hb : Binds X.K fd ps []) (ha : PA X (e :: es) (TMA Y g)) (hdb : (x == ("__debug__" : Str)) = false := by decide) (he : starEach (e :: es) X.env = (false, eval e X.env) :: starEach es X.env := by rfl) (hpl : (backTo pos (starEach es X.env)).any (·.1) = false := by rfl) :
    PE X (.Call (.Name x p) (e :: es) [] pos) (TM Y (eCall m g)) := by
  constructor
  intro pins s σ H Q I q
  have args := ha.run pos pins s σ H _ I (tm_call (ct_sp (m := m) E0) q)
  refine wpAny_Call_Name_kw (ld_glob I hg hm (PySem.W.callWith_K (h₀ := X.base) I.mod.kin kp (thn args ?_) he hpl) hdb)
  rintro us s1 ⟨vs, H1, J, r, sp⟩
  have eu : us.length = ps.length := r.length.symm.trans (spM_many F.many sp)
  have bd := hb s1 us J.kIn (by rw [List.append_nil]; exact eu)
  rw [List.append_nil] at bd
  refine ⟨J.kIn, wpAny_call (codeAny_mono (F.goes X.A quiet hr X.stack s1 H1 J.env0 _ us vs bd r Q sp) ?_)⟩
  intro res s2 z
  match res, z with
  | .ok (.ret u), z => exact J.after z
  | .error v, z => exact z.elim
end
section
variable {P : Program} {w : World} {K : PySem.W.Frag} {mg mb : Str → Option Value} {Y : Wd} {k : Nat} {fa a : Addr} {fd : FuncData} {x : Str} {m : List T → VH → Res T} {s : Shared} {vs : List Value} {ns : List Int}
theorem lawQ (inK : K.In s.heap) (glo : s.heap.Ns mainGlobals mg) (blt : s.heap.Ns builtinsNs mb) (std : ∀ x : Str, x ≠ "__name__" → mb x = bootBuiltins x) (noLim : s.heap.NoLimit) (noGen : s.gens = #[])
    (at_ : s.heap.get? a = some { cls := .type "list", data := .seq vs.toArray }) (nums : IntsAre vs ns) (few : ns.length ≤ sizeLine) (hr : Room k callerA) (hY : Y.K = K) (nt : ∀ q, Y.tb q = none)
    (F : ∀ base : Heap, K.In base → base.Ns mainGlobals mg → FnQ P w K mg base Y k fa fd [x] m) (bind : ∀ (s : Shared) (u : Value), BindsTo s fd ⟨[u], []⟩ [(x, u)]) (law : ∃ h', m [.arg (ns.map T.int)] [] = .ok (.bl true) h') :
    codeAny (model P w) callerA (.call (.ref fa) ⟨[.ref a], []⟩) (fun r s' => r = .ok (.ret (.bool true)) ∧ OldK s.heap s'.heap ∧ s'.os = s.os ∧ AllBare s'.gens) s := by
  obtain ⟨h', law⟩ := law
  obtain ⟨o, ho⟩ : ∃ o : Obj, o = { cls := .type "list", data := .seq vs.toArray } := ⟨_, rfl⟩
  have at_ := ho ▸ at_
  obtain ⟨H, hH⟩ : ∃ H : Hp, ∀ b, H b = if b = a ∧ K.lookup a = none then some (.frz o (.lst (ns.map V.int))) else none := ⟨_, fun b => rfl⟩
  have what : ∀ b u, H b = some u → b = a ∧ K.lookup a = none ∧ u = .frz o (.lst (ns.map V.int)) := fun b u e => by
    rw [hH] at e
    split at e
    · rename_i c; exact ⟨c.1, c.2, (Option.some.inj e).symm⟩
    · cases e
  have rel := vals_ints nums
  have size : (ns.map V.int).length ≤ sizeLine := by rw [List.length_map]; exact few
  have hok : HOk P w H s.heap := fun b u e => by
    obtain ⟨rfl, -, rfl⟩ := what b u e
    exact ⟨at_, size, vs, _, rel, ho ▸ at_⟩
  have script : SqL Y.K H a (ns.map V.int) := by
    rw [hY]
    cases lk : K.lookup a with
    | none => exact .inl (.inr ⟨o, (hH a).trans (if_pos ⟨rfl, lk⟩)⟩)
    | some q =>
      obtain rfl : o = q := Option.some.inj (at_.symm.trans (inK a q lk))
      exact .inr ⟨o, vs.toArray, _, lk, by rw [ho], by rw [ho], by rw [ho], by rw [List.size_toArray, ← rel.length]; exact size, rel⟩
  have names : ∀ {L : Addr} {f : Str → Option Value}, s.heap.Ns L f → (hidT s.heap H).Ns L f := fun {L f} ⟨q, es, ep, e, d, r⟩ => by
    refine ⟨q, es, ep, hidT_get e ?_, d, r⟩
    cases z : H L with
    | none => rfl
    | some u =>
      obtain ⟨rfl, -⟩ := what L u z
      rw [at_] at e
      obtain rfl := Option.some.inj e
      rw [ho] at d
      cases d
  have inB : K.In (hidT s.heap H) := fun b q e => by
    refine hidT_get (inK b q e) ?_
    cases z : H b with
    | none => rfl
    | some u =>
      obtain ⟨rfl, lk, -⟩ := what b u z
      rw [lk] at e
      cases e
  have env : Env0 P w K mg (hidT s.heap H) callerA [] s H := by
    constructor
    · rfl
    · exact ⟨inB, names glo, ⟨mb, names blt, std⟩, let ⟨mc, l1, l2⟩ := noLim; ⟨mc, names l1, l2⟩⟩
    · exact fun b q e => of_hidT e
    · exact Nat.le_of_eq (hidT_size s.heap H)
    · trivial
    · intro b hb; cases hb
    · exact hok
    · exact .of_eq noGen
  have run := (F _ inB (names glo)).goes callerA rfl hr [] s H env ⟨[.ref a], []⟩ [.ref a] [.ref a] (bind s (.ref a)) (.cons rfl .nil) _ (law_sp script few law nt)
  refine codeAny_mono run ?_
  intro r s' z
  match r, z with
  | .ok (.ret u), ⟨v, H', os, bare, un, hok', rv, q⟩ =>
    obtain rfl : v = .bl true := q
    obtain rfl : u = .bool true := rv
    refine ⟨rfl, .of_keep fun b ob e => ?_, os, bare⟩
    cases hb : H b with
    | none => exact un.keep b ob e hb List.not_mem_nil List.not_mem_nil
    | some u =>
      obtain ⟨rfl, -, rfl⟩ := what b u hb
      rw [at_] at e
      obtain rfl := Option.some.inj e
      exact (hok' b _ (un.frzs _ _ _ hb)).1
end
theorem walkQ {l : PySem.W.OpenLaw} {n k : Nat} {q : Program} {loose : List Str} {XP : (Str → Option Value) → Heap → Prop} {YP : World → Heap → Prop} {d : DefRec} {x : Str} (most : l.most = some n) (small : n ≤ sizeLine) (plain : d.params.defaults = []) (hr : Room k callerA)
    (F : ∀ (w : World) (mg : Str → Option Value) (fa : Addr) (h : Heap), YP w h → h.Ns mainGlobals mg → mg d.name = some (.ref fa) →
      ∃ (K : PySem.W.Frag) (fd : FuncData) (Y : Wd) (m : List T → VH → Res T), K.In h ∧ (Y.K = K ∧ ∀ q, Y.tb q = none) ∧ (∀ (s : Shared) (u : Value), BindsTo s fd ⟨[u], []⟩ [(x, u)]) ∧ (∀ ns : List Int, ns.length ≤ n → ∃ h', m [.arg (ns.map T.int)] [] = .ok (.bl true) h') ∧
        ∀ base : Heap, K.In base → base.Ns mainGlobals mg → FnQ l.prog w K mg base Y k fa fd [x] m) : PySem.W.WalkO q loose XP YP l.row.toRowW d [] (fun f vs => PySem.call f vs) := by
  refine Att.attach_call most plain ?_
  intro w s₀ s₁ mg mb fa o pm cd doc a vs ns G Y' ho hd hcd named script nums len noGen
  obtain ⟨K, fd, Y, m, inK, ⟨hY, nt⟩, bind, law, hF⟩ := F w mg fa _ Y' G.T.g named
  exact lawQ inK G.T.g G.T.b G.T.builtins G.T.nolimit noGen script nums (Nat.le_trans len small) hr hY nt hF bind (law ns len)
section
variable {X : Cx} {Y : Wd}
def rRepr (K : PySem.W.Frag) : List V → Hp → VK → Prop := fun vs H Q => ∃ x d, vs = [x] ∧ Dp K H x d ∧ d.showable = true ∧ d.hasDict = false ∧ d.depth ≤ 12 ∧ d.shown.length ≤ sizeLine ∧ Q (.str d.shown) H
theorem cr_repr (quiet : Quiet X.A) (room : X.A.units + 80 < cLine) : CallR X (.builtin "repr") (rRepr X.K) := by
  rintro pins s σ H _ us Q I r ⟨x, d, rfl, dp, sh, nd, dz, sz, q⟩
  match us, r with
  | [u], .cons rx .nil =>
    obtain ⟨as, rd⟩ := Dp.reads I d x u dp rx
    have fin : ∀ h' t tk, (∀ b o, s.heap.get? b = some o → h'.get? b = some o) → EP X pins σ Q (.str d.shown t) { s with heap := h', toks := tk } := fun h' t tk k => ⟨.str d.shown, H, I.kept k, ⟨t, rfl⟩, q⟩
    cases x with
    | ref b =>
      cases rx
      exact repr_of_reads' rd sh (fun e => by rw [nd] at e; cases e) quiet (by omega) (fun _ _ e => e) (fun h' t tk k => fin h' t tk k) sz
    | non => cases rx; cases dp; exact PySem.P.repr_of_none (fin s.heap _ _ fun _ _ e => e)
    | bl b => cases rx; cases dp; exact PySem.P.repr_of_bool (fin s.heap _ _ fun _ _ e => e)
    | int i => obtain ⟨t, rfl⟩ := rx; cases dp; exact PySem.P.repr_of_int (by simpa [PyData.showable] using sh) (fin s.heap _ _ fun _ _ e => e)
    | str z => obtain ⟨t, rfl⟩ := rx; cases dp; exact PySem.P.repr_of_str (fin s.heap _ _ fun _ _ e => e) sz
    | _ => cases dp
end
end TL
namespace TL
open PySem PySem.Spec L2
def keyT : T → Option Key
  | .int i => some (.inl i)
  | .str z => some (.inr z)
  | _ => none
section
variable {Y : Wd} {ρ : Rh} {H : Hp}
theorem keyT_ok {t : T} {v : V} {k : Key} (r : Rp Y ρ H t v) (e : keyT t = some k) : v = kV k := by
  cases r <;> simp [keyT] at e <;> subst e <;> rfl
theorem keyT_of {t : T} {k : Key} (r : Rp Y ρ H t (kV k)) : keyT t = some k := by
  cases k with
  | inl i => cases r; rfl
  | inr z => cases r; rfl
inductive DR (Y : Wd) (ρ : Rh) (H : Hp) : List (T × T) → List (Key × V) → Prop
  | nil : DR Y ρ H [] []
  | cons {kt t : T} {k : Key} {v : V} {kvs : List (T × T)} {vk : List (Key × V)} : Rp Y ρ H kt (kV k) → Rp Y ρ H t v → DR Y ρ H kvs vk → DR Y ρ H ((kt, t) :: kvs) ((k, v) :: vk)
theorem DR.keys {kvs : List (T × T)} {vk : List (Key × V)} (d : DR Y ρ H kvs vk) : Rps Y ρ H (kvs.map (·.1)) (vk.map fun q => kV q.1) := by
  induction d with
  | nil => exact .nil
  | cons a b _ ih => exact .cons a ih
theorem DR.vals {kvs : List (T × T)} {vk : List (Key × V)} (d : DR Y ρ H kvs vk) : Rps Y ρ H (kvs.map (·.2)) (vk.map (·.2)) := by
  induction d with
  | nil => exact .nil
  | cons a b _ ih => exact .cons b ih
theorem DR.of : ∀ {kvs : List (T × T)} {vk : List (Key × V)}, Rps Y ρ H (kvs.map (·.1)) (vk.map fun q => kV q.1) → Rps Y ρ H (kvs.map (·.2)) (vk.map (·.2)) → DR Y ρ H kvs vk
  | [], [], _, _ => .nil
  | [], _ :: _, a, _ => by cases a
  | _ :: _, [], a, _ => by cases a
  | (_, _) :: _, (_, _) :: _, a, b => by
    cases a with
    | cons a1 a2 => cases b with
      | cons b1 b2 => exact .cons a1 b1 (DR.of a2 b2)
theorem DR.or {kvs : List (T × T)} {vk : List (Key × V)} {a : Addr} (d : DR Y ρ H kvs vk) (e : H a = some (.dK vk)) : OR Y ρ H a (.dct kvs) := ⟨vk, e, d.keys, d.vals⟩
theorem DR.length {kvs : List (T × T)} {vk : List (Key × V)} (d : DR Y ρ H kvs vk) : vk.length = kvs.length := by
  induction d with
  | nil => rfl
  | cons _ _ _ ih => simp [ih]
theorem or_dct {kvs : List (T × T)} {a : Addr} (o : OR Y ρ H a (.dct kvs)) : ∃ vk, H a = some (.dK vk) ∧ DR Y ρ H kvs vk := by
  obtain ⟨vk, e, k, v⟩ := o
  exact ⟨vk, e, .of k v⟩
def getT (kvs : List (T × T)) (k : Key) : Option T := (kvs.find? fun q => decide (keyT q.1 = some k)).map (·.2)
def putT (kvs : List (T × T)) (k : Key) (kt v : T) : List (T × T) :=
  if (kvs.any fun q => decide (keyT q.1 = some k)) = true then kvs.map (fun q => if keyT q.1 = some k then (q.1, v) else q) else kvs ++ [(kt, v)]
theorem key_iff {kt : T} {k j : Key} (r : Rp Y ρ H kt (kV k)) : decide (keyT kt = some j) = decide (k = j) := by
  rw [keyT_of r]
  exact decide_eq_decide.mpr ⟨fun z => Option.some.inj z, fun z => by rw [z]⟩
theorem DR.get {kvs : List (T × T)} {vk : List (Key × V)} (d : DR Y ρ H kvs vk) (j : Key) : (getT kvs j = none ∧ valV vk j = none) ∨ ∃ t v, getT kvs j = some t ∧ valV vk j = some v ∧ Rp Y ρ H t v := by
  induction d with
  | nil => exact .inl ⟨rfl, rfl⟩
  | @cons kt t k v kvs vk a b d ih =>
    by_cases c : k = j
    · refine .inr ⟨t, v, ?_, valV_pos c, b⟩
      have := key_iff (j := j) a
      rw [decide_eq_true c] at this
      simp [getT, List.find?_cons, of_decide_eq_true this]
    · have e := key_iff (j := j) a
      rw [decide_eq_false c] at e
      rw [valV_neg c]
      have : getT ((kt, t) :: kvs) j = getT kvs j := by simp [getT, List.find?_cons, e]
      rw [this]
      exact ih
theorem DR.any {kvs : List (T × T)} {vk : List (Key × V)} (d : DR Y ρ H kvs vk) (j : Key) : (kvs.any fun q => decide (keyT q.1 = some j)) = vk.any fun q => decide (q.1 = j) := by
  induction d with
  | nil => rfl
  | cons a b d ih => simp only [List.any_cons, ih, key_iff a]
theorem DR.snoc {kvs : List (T × T)} {vk : List (Key × V)} (d : DR Y ρ H kvs vk) {kt t : T} {k : Key} {v : V} (a : Rp Y ρ H kt (kV k)) (b : Rp Y ρ H t v) : DR Y ρ H (kvs ++ [(kt, t)]) (vk ++ [(k, v)]) := by
  induction d with
  | nil => exact .cons a b .nil
  | cons a' b' _ ih => exact .cons a' b' ih
theorem DR.swap {kvs : List (T × T)} {vk : List (Key × V)} (d : DR Y ρ H kvs vk) {t : T} {k : Key} {v : V} (b : Rp Y ρ H t v) : DR Y ρ H (kvs.map fun q => if keyT q.1 = some k then (q.1, t) else q) (vk.map fun q => if q.1 = k then (q.1, v) else q) := by
  induction d with
  | nil => exact .nil
  | @cons kt' t' k' v' kvs vk a' b' d ih =>
    have e := key_iff (j := k) a'
    by_cases c : k' = k
    · rw [decide_eq_true c] at e
      simp only [List.map_cons, of_decide_eq_true e, c, if_true]
      exact .cons (c ▸ a') b ih
    · rw [decide_eq_false c] at e
      simp only [List.map_cons, of_decide_eq_false e, c, if_false]
      exact .cons a' b' ih
theorem DR.put {kvs : List (T × T)} {vk : List (Key × V)} (d : DR Y ρ H kvs vk) {kt t : T} {k : Key} {v : V} (a : Rp Y ρ H kt (kV k)) (b : Rp Y ρ H t v) : DR Y ρ H (putT kvs k kt t) (putK vk k v) := by
  unfold putT putK
  rw [d.any k]
  split
  · exact d.swap b
  · exact d.snoc a b
theorem DR.ev {ρ' : Rh} {H' : Hp} (e : EvR ρ H ρ' H') {kvs : List (T × T)} {vk : List (Key × V)} (d : DR Y ρ H kvs vk) : DR Y ρ' H' kvs vk := by
  induction d with
  | nil => exact .nil
  | cons a b _ ih => exact .cons (a.ev e) (b.ev e) ih
end
abbrev MP := TS_ → VH → Res (List (T × T))
def pNil : MP := fun _ h => .ok [] h
def pCons (fk fv : ME) (g : MP) : MP := fun τ h => match fk τ h with
  | .ok k h1 => (match fv τ h1 with
    | .ok v h2 => (match g τ h2 with
      | .ok r h3 => .ok ((k, v) :: r) h3
      | .bad => .bad)
    | .bad => .bad)
  | .bad => .bad
def mergeT : List (T × T) → List (T × T) → Option (List (T × T))
  | acc, [] => some acc
  | acc, (kt, v) :: r => match keyT kt with
    | some k => mergeT (putT acc k kt v) r
    | none => none
def eDisp (g : MP) : ME := fun τ h => match g τ h with
  | .ok ps h1 => if ps.length ≤ 15 then (match mergeT [] ps with
    | some kvs => .ok (.ref h1.length) (h1 ++ [.dct kvs])
    | none => .bad) else .bad
  | .bad => .bad
section
variable {X : Cx} {Y : Wd}
def PR (Y : Wd) (ρ : Rh) (H : Hp) (ps : List (T × T)) (vs : List (V × V)) : Prop := Rps Y ρ H (ps.map (·.1)) (vs.map (·.1)) ∧ Rps Y ρ H (ps.map (·.2)) (vs.map (·.2))
def TMP (Y : Wd) (g : MP) (σ : St) (H : Hp) (R : List (V × V) → Hp → Prop) : Prop := ∃ ρ τ h ps h', Go Y ρ H τ σ h ∧ g τ h = .ok ps h' ∧ ∀ ρ' H' vs, Ev ρ H ρ' H' → HR Y ρ' H' h' → PR Y ρ' H' ps vs → R vs H'
structure PD (X : Cx) (Y : Wd) (pos : Pos) (keys : List (Option Expr)) (values : List Expr) (g : MP) : Prop where
  ex : ∃ trs, PPs X pos keys values trs ∧ ∀ σ H R, TMP Y g σ H R → tPairs trs σ H R
theorem xpNil {pos : Pos} : PD X Y pos [] [] pNil := ⟨[], pps_nil, fun σ H R q => by
  obtain ⟨ρ, τ, h, ps, h', G, e, to⟩ := q
  cases e
  exact to ρ H [] .refl G.hr ⟨.nil, .nil⟩⟩
theorem xpCons {pos : Pos} {k v : Expr} {ks : List (Option Expr)} {vs : List Expr} {fk fv : ME} {g : MP} (hk : PE X k (TM Y fk)) (hv : PE X v (TM Y fv)) (hr : PD X Y pos ks vs g) : PD X Y pos (some k :: ks) (v :: vs) (pCons fk fv g) := by
  obtain ⟨trs, pp, i⟩ := hr.ex
  refine ⟨_, pps_cons hk hv pp, ?_⟩
  rintro σ H R ⟨ρ, τ, h, ps, h', G, e, to⟩
  unfold pCons at e
  cases e1 : fk τ h with
  | bad => rw [e1] at e; cases e
  | ok kt h1 =>
    simp only [e1] at e
    cases e2 : fv τ h1 with
    | bad => simp only [e2] at e; cases e
    | ok t h2 =>
      simp only [e2] at e
      cases e3 : g τ h2 with
      | bad => simp only [e3] at e; cases e
      | ok r h3 =>
        simp only [e3] at e
        cases e
        refine ⟨ρ, τ, h, kt, h1, G, e1, ⟨fun ρ1 H1 x ev1 hr1 rx => ⟨ρ1, τ, h1, t, h2, G.ev ev1 hr1, e2, ⟨fun ρ2 H2 y ev2 hr2 ry => i _ _ _ ?_⟩⟩⟩⟩
        refine ⟨ρ2, τ, h2, r, _, (G.ev ev1 hr1).ev ev2 hr2, e3, fun ρ3 H3 zs ev3 hr3 pr => to ρ3 H3 ((x, y) :: zs) ((ev1.trans ev2).trans ev3) hr3 ?_⟩
        exact ⟨.cons (rx.ev (ev2.trans ev3).toEvR) pr.1, .cons (ry.ev ev3.toEvR) pr.2⟩
theorem pairs_keys {ρ : Rh} {H : Hp} : ∀ {ps : List (T × T)} {vs : List (V × V)} {acc kvs : List (T × T)}, PR Y ρ H ps vs → mergeT acc ps = some kvs → ∃ more : List (Key × V), vs = more.map (fun kv => (kV kv.1, kv.2)) ∧ more.length = ps.length ∧
    ∀ vk, DR Y ρ H acc vk → DR Y ρ H kvs (mergeK vk more)
  | [], vs, acc, kvs, pr, e => by
    cases vs with
    | nil => simp only [mergeT, Option.some.injEq] at e; subst e; exact ⟨[], rfl, rfl, fun vk d => d⟩
    | cons _ _ => cases pr.1
  | (kt, t) :: ps, vs, acc, kvs, pr, e => by
    cases vs with
    | nil => cases pr.1
    | cons v vs =>
      obtain ⟨x, y⟩ := v
      obtain ⟨p1, p2⟩ := pr
      cases p1 with
      | cons a p1 => cases p2 with
        | cons b p2 =>
          unfold mergeT at e
          split at e
          · rename_i k ek
            obtain rfl : x = kV k := keyT_ok a ek
            obtain ⟨more, rfl, hl, i⟩ := pairs_keys ⟨p1, p2⟩ e
            exact ⟨(k, y) :: more, rfl, by simp [hl], fun vk d => i _ (d.put a b)⟩
          · cases e
theorem DR.topush {ρ : Rh} {H : Hp} {p : Addr} {kvs : List (T × T)} {vk : List (Key × V)} (d : DR Y (ρ.ban p) H kvs vk) : DR Y (ρ.push p) H kvs vk := by
  induction d with
  | nil => exact .nil
  | cons a b _ ih => exact .cons a.topush b.topush ih
theorem DR.updb {ρ : Rh} {H : Hp} {p : Addr} {o : HO} (hp : p ∈ ρ.bn) {kvs : List (T × T)} {vk : List (Key × V)} (d : DR Y ρ H kvs vk) : DR Y ρ (upd H p o) kvs vk := by
  induction d with
  | nil => exact .nil
  | cons a b _ ih => exact .cons (a.updb hp) (b.updb hp) ih
theorem xDisp {pos : Pos} {keys : List (Option Expr)} {values : List Expr} {g : MP} (hp : PD X Y pos keys values g) (hall : keys.all (·.isSome) = true := by rfl) (hl : keys.length = values.length := by rfl) (h0 : keys ≠ [] := by intro z; cases z) (h15 : keys.length ≤ 15 := by decide) :
    PE X (.Dict keys values pos) (TM Y (eDisp g)) := by
  obtain ⟨trs, pp, i⟩ := hp.ex
  refine pe_imp (pe_disp pp hall hl h0 h15) fun σ H Q q => ?_
  obtain ⟨ρ, τ, h, u, h', G, e, to⟩ := q
  unfold eDisp at e
  split at e
  case h_2 => cases e
  rename_i ps h1 e1
  split at e
  case isFalse => cases e
  rename_i few
  split at e
  case h_2 => cases e
  rename_i kvs em
  cases e
  intro p hp
  refine i _ _ _ ⟨ρ.ban p, τ, h, ps, h1, ⟨⟨G.sl.1, fun i t ht => let ⟨v, a, b⟩ := G.sl.2 i t ht; ⟨v, a, (b.ban hp).updb List.mem_cons_self⟩⟩, G.hr.begin hp⟩, e1, fun ρ' H' vs ev hr pr => ?_⟩
  have mb : p ∈ (ρ.ban p).bn := List.mem_cons_self
  have stays : H' p = some (.dK []) := ev.keep p _ upd_same ((G.hr.begin (o := .dK []) hp).bt p mb).2 (fun _ z => by cases z)
  obtain ⟨more, rfl, hl2, dr⟩ := pairs_keys pr em
  refine ⟨stays, more, rfl, by omega, ?_⟩
  obtain ⟨ρ8, rfl, ev8⟩ := ban_split hp (Ev.new (o := .dK []) hp) ev
  have mb8 : p ∈ (ρ8.ban p).bn := List.mem_cons_self
  have d := (dr [] .nil).updb (o := .dK (mergeK [] more)) mb8
  have nb : p ∉ ρ8.bn := fun z => by
    rw [ev8.bn] at z
    exact (G.hr.bt p z).1 hp
  have hr2 := (hr.updb (o := .dK (mergeK [] more)) mb8).topush nb (d.topush.or upd_same)
  refine to.to (ρ8.push p) _ _ ?_ hr2 (.ref ?_)
  · have evf := ev8.updf (o := .dK (mergeK [] more)) hp
    refine .mk' ?_ evf.bn evf.keep evf.there evf.fz
    obtain ⟨m, em, hm⟩ := evf.more
    refine ⟨m ++ [p], by simp [Rh.push, em], fun b hb => ?_⟩
    rcases List.mem_append.mp hb with z | z
    · exact hm b z
    · rw [List.mem_singleton.mp z]; exact hp
  · have : ρ8.ix.length = h1.length := hr.len
    show (ρ8.ix ++ [p])[h1.length]? = _
    rw [List.getElem?_append_right (by omega), this]
    simp
def eDNew : ME := fun τ h => .ok (.ref h.length) (h ++ [.dct []])
theorem xDNew {pos : Pos} : PE X (.Dict [] [] pos) (TM Y eDNew) := pe_imp pe_dnewK fun σ H Q q => by
  obtain ⟨ρ, τ, h, u, h', G, e, to⟩ := q
  cases e
  intro p hp
  refine to.to (ρ.push p) _ _ (Ev.newρ hp) (G.hr.push hp (DR.nil.or upd_same)) (.ref ?_)
  show (ρ.ix ++ [p])[h.length]? = _
  rw [List.getElem?_append_right (by rw [G.hr.len]; exact Nat.le_refl _), G.hr.len]
  simp
end
end TL
namespace TL
open PySem PySem.Spec L2 PyProof.Rows
def permL {α : Type} (ix : List Nat) (l : List α) : List α := ix.filterMap (l[·]?)
theorem Vals.perm {zs : List V} {ws : List Value} (r : Vals zs ws) : ∀ ix : List Nat, Vals (permL ix zs) (permL ix ws)
  | [] => .nil
  | i :: ix => by
    have ih := Vals.perm r ix
    unfold permL at ih ⊢
    simp only [List.filterMap_cons]
    cases e : zs[i]? with
    | none =>
      have := r.none_of e
      rw [this]
      exact ih
    | some z =>
      obtain ⟨u, e1, e2⟩ := r.get e
      rw [e1]
      exact .cons e2 ih
theorem Rps.perm {Y : Wd} {ρ : Rh} {H : Hp} {ts : List T} {vs : List V} (r : Rps Y ρ H ts vs) : ∀ ix : List Nat, Rps Y ρ H (permL ix ts) (permL ix vs)
  | [] => .nil
  | i :: ix => by
    have ih := Rps.perm r ix
    unfold permL at ih ⊢
    simp only [List.filterMap_cons]
    cases e : ts[i]? with
    | none =>
      have : vs[i]? = none := by
        rw [List.getElem?_eq_none_iff] at e ⊢
        rw [r.length]; exact e
      rw [this]
      exact ih
    | some t =>
      obtain ⟨v, e1, e2⟩ := r.get e
      rw [e1]
      exact .cons e2 ih
section
variable {X : Cx} {Y : Wd}
theorem xkNil : PK X [] (TMA Y aNil) := ⟨fun pos pins s σ H Q I q => by
  obtain ⟨ρ, τ, h, t, h', G, e, to⟩ := q
  cases e
  exact pk_nil.run pos pins s σ H Q I (to.to ρ H [] .refl G.hr .nil)⟩
theorem xkCons {nm : Option Str} {e : Expr} {kpos : Pos} {kws : List Keyword} {f : ME} {g : MA} (ha : PE X e (TM Y f)) (hr : PK X kws (TMA Y g)) : PK X (⟨nm, e, kpos⟩ :: kws) (TMA Y (aCons f g)) := ⟨fun pos pins s σ H Q I q => by
  refine (pk_cons ha hr).run pos pins s σ H Q I ?_
  obtain ⟨ρ, τ, h, u, h', G, e, to⟩ := q
  unfold aCons at e
  cases e1 : f τ h with
  | bad => simp only [e1] at e; cases e
  | ok t h1 =>
    simp only [e1] at e
    cases e2 : g τ h1 with
    | bad => simp only [e2] at e; cases e
    | ok ts h2 =>
      simp only [e2] at e
      cases e
      exact ⟨ρ, τ, h, t, h1, G, e1, ⟨fun ρ1 H1 v ev hr1 r => ⟨ρ1, τ, h1, _, _, G.ev ev hr1, e2, ⟨fun ρ2 H2 vs ev2 hr2 rs => to.to ρ2 H2 (v :: vs) (ev.trans ev2) hr2 (.cons (r.ev ev2.toEvR) rs)⟩⟩⟩⟩⟩
def aPerm (ix : List Nat) (g : MA) : MA := fun τ h => match g τ h with
  | .ok ts h1 => .ok (permL ix ts) h1
  | .bad => .bad
theorem tma_perm {ix : List Nat} {g : MA} {σ : St} {H : Hp} {R : List V → Hp → Prop} (q : TMA Y (aPerm ix g) σ H R) : TMA Y g σ H fun zs H1 => R (permL ix zs) H1 := by
  obtain ⟨ρ, τ, h, u, h', G, e, to⟩ := q
  unfold aPerm at e
  cases e1 : g τ h with
  | bad => rw [e1] at e; cases e
  | ok ts h1 =>
    rw [e1] at e
    cases e
    exact ⟨ρ, τ, h, ts, _, G, e1, ⟨fun ρ' H' zs ev hr rs => to.to ρ' H' _ ev hr (rs.perm ix)⟩⟩
structure KwB (K : PySem.W.Frag) (fd : FuncData) (ps ks : List Str) (n : Nat) (ix : List Nat) : Prop where
  to : ∀ (s : Shared) (us ws : List Value), K.In s.heap → us.length = n → ws.length = ks.length → BindsTo s fd ⟨us, ks.zip ws⟩ (ps.zip (us ++ permL ix ws))
theorem kwB {K : PySem.W.Frag} {x qual : Str} {params : Arguments} {body : List Stmt} {scope : Scope} {kws : List (Str × V)} {f : Addr} {fd : FuncData} {ps ks : List Str} {n : Nat} {ix : List Nat} (F : FunD K x qual params body scope [] kws f fd)
    (h : ∀ (kV doc pm : Value) (an : Option Addr) (cdv ct : Value) (us ws : List Value), us.length = n → ws.length = ks.length → bindArgs (PySem.W.fnOf x qual params body scope .none kV doc pm an cdv ct) ⟨us, ks.zip ws⟩ = pure (ps.zip (us ++ permL ix ws))) : KwB K fd ps ks n ix := by
  obtain ⟨oc, od, dV, kV, doc, pm, an, cdv, ct, osl, rfl, _, _, hD, _⟩ := F.ex
  rcases hD with ⟨_, rfl⟩ | ⟨e, _⟩
  · exact ⟨fun s us ws _ l1 l2 => .of_eq (h kV doc pm an cdv ct us ws l1 l2)⟩
  · exact absurd rfl e
theorem tma_len {g : MA} {n : Nat} (hg : ∀ τ h ts h', g τ h = .ok ts h' → ts.length = n) : ∀ σ H R, TMA Y g σ H R → TMA Y g σ H fun vs H' => vs.length = n ∧ R vs H' := by
  rintro σ H R ⟨ρ, τ, h, ts, h', G, e, to⟩
  exact ⟨ρ, τ, h, ts, h', G, e, ⟨fun ρ' H' vs ev hr rs => ⟨by rw [rs.length]; exact hg τ h ts h' e, to.to ρ' H' vs ev hr rs⟩⟩⟩
theorem len_nil : ∀ (τ : TS_) (h : VH) (ts : List T) (h' : VH), aNil τ h = .ok ts h' → ts.length = 0 := by
  intro τ h ts h' e; cases e; rfl
theorem len_cons {f : ME} {g : MA} {n : Nat} (hg : ∀ (τ : TS_) (h : VH) (ts : List T) (h' : VH), g τ h = .ok ts h' → ts.length = n) : ∀ (τ : TS_) (h : VH) (ts : List T) (h' : VH), aCons f g τ h = .ok ts h' → ts.length = n + 1 := by
  intro τ h ts h' e
  unfold aCons at e
  cases e1 : f τ h with
  | bad => simp only [e1] at e; cases e
  | ok t h1 =>
    simp only [e1] at e
    cases e2 : g τ h1 with
    | bad => simp only [e2] at e; cases e
    | ok us h2 => simp only [e2] at e; cases e; simp [hg _ _ _ _ e2]
end
end TL
namespace TL
open PySem PySem.Spec L2
end TL
namespace TL
open PySem PySem.Spec L2
def lens (ts : List Str) : Nat := (ts.map fun t => t.length + 2).sum
theorem textFrom_le : ∀ (ts : List Str) (k : Nat) (acc : Str), (textFrom k acc ts).length ≤ acc.length + lens ts
  | [], k, acc => by simp [textFrom, lens]
  | t :: ts, k, acc => by
    have ih := textFrom_le ts (k + 1) (acc ++ (if k > 0 then ", " else "" : String) ++ t)
    have e : (acc ++ (if k > 0 then ", " else "" : String) ++ t).length ≤ acc.length + 2 + t.length := by
      rw [len_app, len_app]
      have : (Str.ofString (if k > 0 then ", " else "")).length ≤ 2 := by split <;> decide
      omega
    have l : lens (t :: ts) = t.length + 2 + lens ts := by simp [lens]
    rw [l]
    show (textFrom (k + 1) _ ts).length ≤ _
    omega
theorem listText_le (ts : List Str) : (listText ts).length ≤ lens ts + 2 := by
  unfold listText
  rw [len_app]
  have h := textFrom_le ts 0 "["
  have a : (Str.ofString "[").length = 1 := by decide
  have b : (Str.ofString "]").length = 1 := by decide
  omega
end TL
namespace TL
open PySem PySem.Spec L2
end TL
namespace TL
open PySem PySem.Spec L2
open PySem.W (alike AllAlike Sortable dataLe EachIs)
end TL
namespace TL
open PySem PySem.Spec L2
end TL
namespace TL
open PySem PySem.Spec L2
end TL
namespace TL
open PySem PySem.Spec L2
structure PrD where
  cls : Str
  f : Str
  qual : Str
  params : Arguments
  body : List Stmt
  scope : Scope
abbrev FnV : Type := Option (Str × Str × Arguments × FuncBody × Scope × Addr × List (Str × Addr) × Addr)
def PrD.val (d : PrD) : FnV := some (d.f, d.qual, d.params, .stmts d.body, d.scope, mainGlobals, [], builtinsNs)
end TL
namespace TL
open PySem PySem.Spec L2
end TL
namespace TL
open PySem PySem.Spec L2 PyProof.Rows
open AutoSeq1 (wpAny_loadPart')
structure AtT (e it t : Addr) (n i : Nat) (h : Heap) : Prop where
  en : ∃ last, IsEnum h e it (i : Int) last
  ti : h.IsTupleIter it t i
  ne : e ≠ it
  n1 : t ≠ it
  n2 : t ≠ e
  le : i ≤ n
section
variable {P : Program} {w : World} {K : PySem.W.Frag} {e it t : Addr}
theorem AtT.there {n i : Nat} {h : Heap} (a : AtT e it t n i h) {b : Addr} (m : b ∈ [e, it]) : ∃ o, h.get? b = some o ∧ ∀ v, o.data ≠ .cell v := by
  rcases List.mem_cons.mp m with rfl | m
  · obtain ⟨l, q⟩ := a.en
    exact ⟨_, q, nofun⟩
  · obtain rfl := List.mem_singleton.mp m
    obtain ⟨o, q, _, d⟩ := a.ti
    exact ⟨o, q, fun v y => by rw [d] at y; cases y⟩
end
end TL
namespace K33
open PySem L2 TL
end K33
namespace K13
open PySem L2 TL
def s_law_purse : MS := (sSeq (sSet 2 (eIf (bTest (eOp bLt (eVar 1) (eCall fLen (aCons (eVar 0) aNil)))) (eOp bIx (eVar 0) (eVar 1)) (eOp bMul (eK (.int 5417)) (eOp bAdd (eVar 1) (eK (.int 5))))))
  (sSeq (sSet 3 (eOp bAdd (eK (.int 743)) (eVar 1)))
  (sSeq (sFor (iSeqC (eOp bAdd (eSl (eVar 0) oNo (oSome (eK (.int 5)))) (eL (aLim (aCons (eVar 2) aNil))))) (mgName 4) (sSet 3 (eOp bMod (eCall fInt (aCons (eOp bAdd (eOp bAdd (eOp bMul (eVar 3) (eK (.int 39373))) (eOp bMod (eCall fInt (aCons (eVar 4) aNil)) (eK (.int 2147483647)))) (eK (.int 101))) aNil)) (eK (.int 2147483647)))))
  (sRet (eH (aLim (aCons (eIf (bTest (eOp bGe (eCall fAbs (aCons (eVar 2) aNil)) (eOp bPow (eK (.int 10)) (eK (.int 18))))) (eCall fAbs (aCons (eVar 2) aNil)) (eK (.int 0))) (aCons (eVar 3) aNil))))))))
def m_law_purse : List T → VH → Res T := defM 5 2 s_law_purse
def s_law_draw : MS := (sSeq (sIf (bTest (eOp bGt (eOp bIx (eVar 0) (eK (.int 0))) (eK (.int 0)))) (sSeq (sAsg (eCall fDivmod (aCons (eOp bIx (eVar 0) (eK (.int 0))) (aCons (eVar 1) aNil))) (mgTup 2 (mgsCons (mgSub bSetL (eVar 0) (eK (.int 0))) (mgsCons (mgName 2) mgsNil))))
  (sRet (eVar 2))) sNil)
  (sSeq (sAsg (eOp bMod (eCall fInt (aCons (eOp bAdd (eOp bMul (eOp bIx (eVar 0) (eK (.int 1))) (eK (.int 52021))) (eK (.int 40503))) aNil)) (eK (.int 2147483647))) (mgSub bSetL (eVar 0) (eK (.int 1))))
  (sRet (eOp bMod (eCall fInt (aCons (eOp bFdv (eOp bIx (eVar 0) (eK (.int 1))) (eK (.int 1024))) aNil)) (eVar 1)))))
def m_law_draw : List T → VH → Res T := defM 3 2 s_law_draw
end K13
namespace TL
open PySem PySem.Spec L2
end TL
namespace TL
open PySem PySem.Spec L2
end TL
namespace TL
open PySem PySem.Spec L2
end TL
namespace TL
open PySem
end TL
namespace TL
open PySem PySem.Spec L2
end TL
namespace TL
open PySem PySem.Spec PySem.Calls PySem.W PyProof PyProof.Rows
end TL
namespace TL
open PySem PySem.Spec L2
open PySem.W (alike AllAlike Sortable dataLe EachIs)
end TL
namespace TL
open PySem PySem.Spec L2
end TL
namespace TL
open PySem PySem.Spec L2 PyProof.Rows
abbrev cells3 (N : Nat) : List Addr := [N + 5, N + 3, N + 4, N, N + 1, N + 2]
structure At3 (N a b c n i : Nat) (h : Heap) : Prop where
  z : IsZip h (N + 5) (N + 3) (N + 4) .none
  ti : IsTupOf3 h (N + 3) (.ref N) (.ref (N + 1)) (.ref (N + 2))
  tout : ∃ u v w, IsTupOf3 h (N + 4) u v w
  p : h.IsListIter N a i
  q : h.IsListIter (N + 1) b i
  r : h.IsListIter (N + 2) c i
  le : i ≤ n
theorem At3.there {N a b c n i : Nat} {h : Heap} (s : At3 N a b c n i h) {k : Addr} (m : k ∈ cells3 N) : ∃ o, h.get? k = some o ∧ ∀ v, o.data ≠ .cell v := by
  have it : ∀ {k l : Addr}, h.IsListIter k l i → ∃ o, h.get? k = some o ∧ ∀ v, o.data ≠ .cell v := fun ⟨o, e, _, d⟩ => ⟨o, e, fun v y => by rw [d] at y; cases y⟩
  simp only [List.mem_cons, List.not_mem_nil, or_false] at m
  rcases m with rfl | rfl | rfl | rfl | rfl | rfl
  · exact ⟨_, s.z, nofun⟩
  · exact ⟨_, s.ti, nofun⟩
  · obtain ⟨u, v, w, e⟩ := s.tout
    exact ⟨_, e, nofun⟩
  · exact it s.p
  · exact it s.q
  · exact it s.r
end TL
namespace TL
open PySem PySem.Spec L2
end TL
namespace TL
open PySem PySem.Spec L2
end TL
namespace TL
open PySem PySem.Spec L2
end TL
namespace TL
open PySem PySem.Spec PySem.Calls PySem.W PyProof PyProof.Rows
end TL
namespace TL
open PySem PySem.Spec L2
open PySem.W (dataLe EachIs)
end TL
namespace TL
open PySem PySem.Spec L2
inductive Oux where
  | o (x : Out)
  | xc (c : Nat) (fs : List T) (τ : TS_) (h : VH)
def XcTo (Y : Wd) (ρ : Rh) (H : Hp) (c : Nat) (fs : List T) (h : VH) (R : Rh → Hp → Value → Option Addr → Prop) : Prop :=
  ∀ (ρ' : Rh) (H' : Hp) (C : Addr) (d : Option Addr) (vfs : List (Str × V)), Ev ρ H ρ' H' → HR Y ρ' H' h → exC Y.K c = some C → XdAt ρ' H' d vfs → vfs.map (·.1) = (exFn c).take fs.length → Rps Y ρ' H' fs (vfs.map (·.2)) → R ρ' H' (.ref C) d
theorem XcTo.ev {Y : Wd} {ρ ρ1 : Rh} {H H1 : Hp} {c : Nat} {fs : List T} {h : VH} {R : Rh → Hp → Value → Option Addr → Prop} (e : Ev ρ H ρ1 H1) (g : XcTo Y ρ H c fs h R) : XcTo Y ρ1 H1 c fs h R :=
  fun ρ' H' C d vfs e1 => g ρ' H' C d vfs (e.trans e1)
theorem XcTo.imp {Y : Wd} {ρ : Rh} {H : Hp} {c : Nat} {fs : List T} {h : VH} {R R' : Rh → Hp → Value → Option Addr → Prop} (g : XcTo Y ρ H c fs h R) (i : ∀ ρ' H' cls d, Ev ρ H ρ' H' → HR Y ρ' H' h → R ρ' H' cls d → R' ρ' H' cls d) : XcTo Y ρ H c fs h R' :=
  fun ρ' H' C d vfs e hr e1 e2 e3 e4 => i _ _ _ _ e hr (g ρ' H' C d vfs e hr e1 e2 e3 e4)
def OutToX (Y : Wd) (W : WX) (ρ : Rh) (H : Hp) (o : Oux) (D : Ends) : Prop := match o with
  | .o x => OutTo Y ρ H x D
  | .xc c fs τ h => XcTo Y ρ H c fs h fun ρ' H' cls d => ∀ σ', Sl Y ρ' H' τ σ' → W cls d σ' H'
theorem OutToX.ev {Y : Wd} {W : WX} {ρ ρ1 : Rh} {H H1 : Hp} {o : Oux} {D : Ends} (e : Ev ρ H ρ1 H1) (g : OutToX Y W ρ H o D) : OutToX Y W ρ1 H1 o D := by
  cases o with
  | o x => exact OutTo.ev e g
  | xc c fs τ h => exact XcTo.ev (R := fun ρ' H' cls d => ∀ σ', Sl Y ρ' H' τ σ' → W cls d σ' H') e g
end TL
namespace TL
open PySem PySem.Spec PyProof.Rows L2
end TL
namespace TL
open PySem PySem.Spec PyProof.Rows L2
end TL
namespace TL
open PySem PySem.Spec PyProof.Rows L2
end TL
namespace TL
open PySem PySem.Spec PyProof.Rows L2
end TL
namespace TL
open PySem PySem.Spec L2
end TL
namespace TL
open PySem PySem.Spec PySem.Calls PySem.W PyProof PyProof.Rows
end TL
namespace TL
open PySem PySem.Spec L2
section
variable {X : Cx} {Y : Wd}
def putG {κ β : Type} [DecidableEq κ] (kvs : List (κ × β)) (k : κ) (v : β) : List (κ × β) :=
  if (kvs.any fun q => decide (q.1 = k)) = true then kvs.map (fun q => if q.1 = k then (q.1, v) else q) else kvs ++ [(k, v)]
inductive DTR (Y : Wd) (ρ : Rh) (H : Hp) : List (List Key × T) → List (List Key × V) → Prop
  | nil : DTR Y ρ H [] []
  | cons {k : List Key} {t : T} {v : V} {kvs : List (List Key × T)} {vk : List (List Key × V)} : Rp Y ρ H t v → DTR Y ρ H kvs vk → DTR Y ρ H ((k, t) :: kvs) ((k, v) :: vk)
theorem DTR.of {ρ : Rh} {H : Hp} : ∀ {kvs : List (List Key × T)} {vk : List (List Key × V)}, vk.map (·.1) = kvs.map (·.1) → Rps Y ρ H (kvs.map (·.2)) (vk.map (·.2)) → DTR Y ρ H kvs vk
  | [], [], _, _ => .nil
  | [], _ :: _, e, _ => by simp at e
  | _ :: _, [], e, _ => by simp at e
  | (k, t) :: kvs, (k2, v) :: vk, e, r => by
    simp only [List.map_cons, List.cons.injEq] at e
    obtain ⟨rfl, e⟩ := e
    cases r with
    | cons a b => exact .cons a (.of e b)
theorem DTR.to {ρ : Rh} {H : Hp} {kvs : List (List Key × T)} {vk : List (List Key × V)} (d : DTR Y ρ H kvs vk) : vk.map (·.1) = kvs.map (·.1) ∧ Rps Y ρ H (kvs.map (·.2)) (vk.map (·.2)) := by
  induction d with
  | nil => exact ⟨rfl, .nil⟩
  | cons a _ ih => exact ⟨by simp [ih.1], .cons a ih.2⟩
theorem DTR.any {ρ : Rh} {H : Hp} {kvs : List (List Key × T)} {vk : List (List Key × V)} (d : DTR Y ρ H kvs vk) (j : List Key) : (vk.any fun q => decide (q.1 = j)) = kvs.any fun q => decide (q.1 = j) := by
  induction d with
  | nil => rfl
  | cons _ _ ih => simp only [List.any_cons, ih]
theorem DTR.snoc {ρ : Rh} {H : Hp} {kvs : List (List Key × T)} {vk : List (List Key × V)} (d : DTR Y ρ H kvs vk) {k : List Key} {t : T} {v : V} (b : Rp Y ρ H t v) : DTR Y ρ H (kvs ++ [(k, t)]) (vk ++ [(k, v)]) := by
  induction d with
  | nil => exact .cons b .nil
  | cons a _ ih => exact .cons a ih
theorem DTR.swap {ρ : Rh} {H : Hp} {kvs : List (List Key × T)} {vk : List (List Key × V)} (d : DTR Y ρ H kvs vk) {k : List Key} {t : T} {v : V} (b : Rp Y ρ H t v) :
    DTR Y ρ H (kvs.map fun q => if q.1 = k then (q.1, t) else q) (vk.map fun q => if q.1 = k then (q.1, v) else q) := by
  induction d with
  | nil => exact .nil
  | @cons k' t' v' kvs vk a d ih =>
    by_cases c : k' = k
    · simp only [List.map_cons, c, if_true]
      exact .cons b ih
    · simp only [List.map_cons, c, if_false]
      exact .cons a ih
theorem DTR.put {ρ : Rh} {H : Hp} {kvs : List (List Key × T)} {vk : List (List Key × V)} (d : DTR Y ρ H kvs vk) {k : List Key} {t : T} {v : V} (b : Rp Y ρ H t v) : DTR Y ρ H (putG kvs k t) (putK vk k v) := by
  unfold putG putK
  rw [d.any k]
  split
  · exact d.swap b
  · exact d.snoc b
theorem DTR.ev {ρ ρ' : Rh} {H H' : Hp} (e : EvR ρ H ρ' H') {kvs : List (List Key × T)} {vk : List (List Key × V)} (d : DTR Y ρ H kvs vk) : DTR Y ρ' H' kvs vk := by
  induction d with
  | nil => exact .nil
  | cons a _ ih => exact .cons (a.ev e) ih
theorem DTR.length {ρ : Rh} {H : Hp} {kvs : List (List Key × T)} {vk : List (List Key × V)} (d : DTR Y ρ H kvs vk) : vk.length = kvs.length := by
  induction d with
  | nil => rfl
  | cons _ _ ih => simp [ih]
end
end TL
namespace TL
open PySem PySem.Spec L2 PyProof.Rows
open PySem.W (dataLe EachIs AllAlike Sortable)
end TL
namespace TL
open PySem PySem.Spec L2 PyProof.Rows
end TL
namespace TL
open PySem PySem.Spec PySem.Calls PyProof PyProof.Rows PySem.W L2
end TL
namespace TL
open PySem PySem.Spec L2 PyProof.Rows RZ
end TL
namespace TL
open PySem PySem.Spec L2
end TL
namespace TL
open PySem PySem.Spec L2 PyProof.Rows
end TL
namespace TL
open PySem PySem.Spec L2
theorem out_nx {ρ : Rh} {p a : Addr} (hp : p ∈ ρ.ix) (h : ρ.out a) : a ≠ p := fun z => h.1 (z ▸ hp)
theorem Rd.updx {ρ : Rh} {H : Hp} {p a : Addr} {o u : HO} (hp : p ∈ ρ.ix) (h : ρ.out a) (r : Rd H a u) : Rd (upd H p o) a u :=
  r.elim (fun z => .inl ((upd_ne (out_nx hp h)).trans z)) fun ⟨q, z⟩ => .inr ⟨q, (upd_ne (out_nx hp h)).trans z⟩
mutual
theorem Rp.updx {Y : Wd} {ρ : Rh} {H : Hp} {p : Addr} {o : HO} (hp : p ∈ ρ.ix) : ∀ {t : T} {v : V}, Rp Y ρ H t v → Rp Y ρ (upd H p o) t v
  | _, _, .int i => .int i
  | _, _, .bl b => .bl b
  | _, _, .non => .non
  | _, _, .ref h => .ref h
  | _, _, .str h => .str h
  | _, _, .obj c n h nm r => .obj c n ((upd_ne (out_nx hp n)).trans h) nm (Rps.updx hp r)
  | _, _, .lst h r => .lst ⟨h.1, h.2.1, (upd_ne (out_nx hp h.2.1)).trans h.2.2⟩ (Rps.updx hp r)
  | _, _, .arg ⟨l, h⟩ r => .arg ⟨l, h.imp (fun z => ⟨z.1, Rd.updx hp z.1 z.2⟩) id⟩ (Rps.updx hp r)
  | _, _, .tpx h r => .tpx (h.to id fun z _ => upd_ne (out_nx hp z)) (Rps.updx hp r)
  | _, _, .exc h nm r => .exc (h.to (fun _ _ o _ => o) fun _ _ o z => (upd_ne (out_nx hp o)).trans z) nm (Rps.updx hp r)
  | _, _, .eob c n h g nm r => .eob c n ((upd_ne (out_nx hp n)).trans h) (g.to (fun _ _ o _ => o) fun _ _ o z => (upd_ne (out_nx hp o)).trans z) nm (Rps.updx hp r)
  | _, _, .tup ⟨l, h⟩ r => .tup ⟨l, h.imp (fun z => ⟨z.1, Rd.updx hp z.1 z.2⟩) id⟩ (Rps.updx hp r)
theorem Rps.updx {Y : Wd} {ρ : Rh} {H : Hp} {p : Addr} {o : HO} (hp : p ∈ ρ.ix) : ∀ {ts : List T} {vs : List V}, Rps Y ρ H ts vs → Rps Y ρ (upd H p o) ts vs
  | _, _, .nil => .nil
  | _, _, .cons a b => .cons (Rp.updx hp a) (Rps.updx hp b)
end
theorem OR.updx {Y : Wd} {ρ : Rh} {H : Hp} {p a : Addr} {o : HO} (hp : p ∈ ρ.ix) (ne : a ≠ p) {vo : VO} (r : OR Y ρ H a vo) : OR Y ρ (upd H p o) a vo := by
  cases vo with
  | lst ts => exact let ⟨vs, x, hz, y⟩ := r; ⟨vs, (upd_ne ne).trans x, hz, y.updx hp⟩
  | ins c fs => exact let ⟨C, dx, vfs, hc, x, hn, y⟩ := r; ⟨C, dx, vfs, hc, (upd_ne ne).trans x, hn, y.updx hp⟩
  | dct kvs => exact let ⟨vk, x, y, z⟩ := r; ⟨vk, (upd_ne ne).trans x, y.updx hp, z.updx hp⟩
  | dcT kvs => exact let ⟨vk, x, y, z⟩ := r; ⟨vk, (upd_ne ne).trans x, y, z.updx hp⟩
  | dcF kvs => exact let ⟨q, vk, x, y, z⟩ := r; ⟨q, vk, (upd_ne ne).trans x, y.updx hp, z.updx hp⟩
  | dcN kvs => exact let ⟨q, x, i, y, z⟩ := r; ⟨q, (upd_ne ne).trans x, i, y.updx hp, z.updx hp⟩
  | tab nm => exact ⟨r.1, TbAt.to r.2 (upd_ne ne) fun c o z => ⟨o, (upd_ne (out_nx hp o)).trans z⟩⟩
theorem HR.put {Y : Wd} {ρ : Rh} {H : Hp} {h : VH} (r : HR Y ρ H h) {n : Nat} {p : Addr} {o : HO} {vo : VO} (hp : ρ.ix[n]? = some p) (ho : OR Y ρ (upd H p o) p vo) : HR Y ρ (upd H p o) (h.set n vo) := by
  have mp := List.mem_of_getElem? hp
  have nb : ∀ a ∈ ρ.bn, a ≠ p := fun a ha z => (r.bt a ha).2 (z ▸ mp)
  constructor
  case len => rw [List.length_set]; exact r.len
  case nd => exact r.nd
  case tb => exact r.tbTo (fun _ o _ => o) fun c o _ => upd_ne (out_nx mp o)
  case bt => exact fun a ha => ⟨by rw [upd_ne (nb a ha)]; exact (r.bt a ha).1, (r.bt a ha).2⟩
  case bl => exact fun a ha xs => by rw [upd_ne (nb a ha)]; exact r.bl a ha xs
  case at_ =>
    intro k w a h1 h2
    by_cases e : n = k
    · subst e
      obtain rfl : p = a := Option.some.inj (hp.symm.trans h2)
      have lt := (List.getElem?_eq_some_iff.mp h1).1
      rw [List.length_set] at lt
      rw [List.getElem?_set_self lt] at h1
      cases h1
      exact ho
    · rw [List.getElem?_set_ne e] at h1
      refine (r.at_ k w a h1 h2).updx mp fun z => e ?_
      subst z
      obtain ⟨l1, g1⟩ := List.getElem?_eq_some_iff.mp hp
      obtain ⟨l2, g2⟩ := List.getElem?_eq_some_iff.mp h2
      exact (List.getElem_inj r.nd).mp (g1.trans g2.symm)
end TL
namespace TL
open PySem PySem.Spec L2 PyProof.Rows
abbrev cells2 (N : Nat) : List Addr := [N + 4, N + 2, N + 3, N, N + 1]
structure At2 (N a b n i : Nat) (h : Heap) : Prop where
  z : IsZip h (N + 4) (N + 2) (N + 3) .none
  ti : IsTupOf2 h (N + 2) (.ref N) (.ref (N + 1))
  tout : ∃ u v, IsTupOf2 h (N + 3) u v
  p : h.IsTupleIter N a i
  q : h.IsListIter (N + 1) b i
  le : i ≤ n
theorem At2.there {N a b n i : Nat} {h : Heap} (s : At2 N a b n i h) {k : Addr} (m : k ∈ cells2 N) : ∃ o, h.get? k = some o ∧ ∀ v, o.data ≠ .cell v := by
  simp only [List.mem_cons, List.not_mem_nil, or_false] at m
  rcases m with rfl | rfl | rfl | rfl | rfl
  · exact ⟨_, s.z, nofun⟩
  · exact ⟨_, s.ti, nofun⟩
  · obtain ⟨u, v, e⟩ := s.tout
    exact ⟨_, e, nofun⟩
  · obtain ⟨o, e, _, d⟩ := s.p
    exact ⟨o, e, fun v y => by rw [d] at y; cases y⟩
  · obtain ⟨o, e, _, d⟩ := s.q
    exact ⟨o, e, fun v y => by rw [d] at y; cases y⟩
end TL
namespace TL
open PySem PySem.Spec L2 PyProof.Rows
mutual
inductive NK (K : PySem.W.Frag) (H : Hp) : NestedKey → V → Prop
  | non : NK K H .none .non
  | bl (b : Bool) : NK K H (.num (if b = true then 1 else 0)) (.bl b)
  | int (i : Int) : NK K H (.num i) (.int i)
  | str (x : Str) : NK K H (.text x) (.str x)
  | tup {a : Addr} {vs : List V} {ks : List NestedKey} : SqT K H a vs → NKs K H ks vs → NK K H (.tup ks) (.ref a)
inductive NKs (K : PySem.W.Frag) (H : Hp) : List NestedKey → List V → Prop
  | nil : NKs K H [] []
  | cons {k : NestedKey} {v : V} {ks : List NestedKey} {vs : List V} : NK K H k v → NKs K H ks vs → NKs K H (k :: ks) (v :: vs)
end
section
variable {X : Cx} {pins : List (Addr × Obj)} {σ : St} {H : Hp} {s : Shared}
mutual
theorem NK.is (I : Inv X pins σ H s) : ∀ {k : NestedKey} {v : V} {u : Value}, NK X.K H k v → RelV v u → NestedIs s.heap k u
  | _, _, _, .non, r => by
    cases r
    exact .none
  | _, _, _, .bl b, r => by
    cases r
    exact .bool rfl
  | _, _, _, .int i, r => by
    obtain ⟨t, rfl⟩ := r
    exact .int i t
  | _, _, _, .str x, r => by
    obtain ⟨t, rfl⟩ := r
    exact .text x t
  | _, _, _, .tup sq ks, r => by
    cases r
    obtain ⟨its, rv, ⟨o, e1, e2, n, e3⟩, _⟩ := I.tuple sq
    exact .tup e1 e2 e3 (by simpa using NKs.is I ks rv)
theorem NKs.is (I : Inv X pins σ H s) : ∀ {ks : List NestedKey} {vs : List V} {us : List Value}, NKs X.K H ks vs → Vals vs us → NestedAll s.heap ks us
  | _, _, _, .nil, r => by
    cases r
    exact .nil
  | _, _, _, .cons a b, r => by
    cases r with
    | cons r1 r2 => exact .cons (NK.is I a r1) (NKs.is I b r2)
end
abbrev NV (xs : List (NestedKey × Addr × V)) (ys : List (NestedKey × Addr × Value)) : Prop := Paired (fun (p : NestedKey × Addr × V) (q : NestedKey × Addr × Value) => p.1 = q.1 ∧ p.2.1 = q.2.1 ∧ RelV p.2.2 q.2.2) xs ys
def atN : List (NestedKey × Addr × V) → NestedKey → Option V
  | [], _ => none
  | x :: xs, k => if x.1 = k then some x.2.2 else atN xs k
def putN (xs : List (NestedKey × Addr × V)) (k : NestedKey) (b : Addr) (v : V) : List (NestedKey × Addr × V) :=
  if (atN xs k).isSome = true then xs.map (fun x => if x.1 = k then (x.1, x.2.1, v) else x) else xs ++ [(k, b, v)]
theorem NV.at_ {xs : List (NestedKey × Addr × V)} {ys : List (NestedKey × Addr × Value)} (r : NV xs ys) (k : NestedKey) : (atN xs k = none ∧ atKey ys k = none) ∨ ∃ v b u, atN xs k = some v ∧ atKey ys k = some (b, u) ∧ RelV v u := by
  induction r with
  | nil => exact .inl ⟨rfl, rfl⟩
  | @cons p q ps qs hq t ih =>
    by_cases e : p.1 = k
    · refine .inr ⟨p.2.2, q.2.1, q.2.2, by simp [atN, e], ?_, hq.2.2⟩
      have : q.1 = k := hq.1 ▸ e
      simp [atKey, this]
    · have e2 : ¬ q.1 = k := fun z => e (hq.1.trans z)
      have a1 : atN (p :: ps) k = atN ps k := by simp [atN, e]
      have a2 : atKey (q :: qs) k = atKey qs k := by simp [atKey, e2]
      rw [a1, a2]
      exact ih
theorem NV.keys {xs : List (NestedKey × Addr × V)} {ys : List (NestedKey × Addr × Value)} (r : NV xs ys) : xs.map (·.1) = ys.map (·.1) := by
  induction r with
  | nil => rfl
  | cons hq t ih => simp [hq.1, ih]
theorem NV.put {xs : List (NestedKey × Addr × V)} {ys : List (NestedKey × Addr × Value)} (r : NV xs ys) (k : NestedKey) (b : Addr) {v : V} {u : Value} (rv : RelV v u) : NV (putN xs k b v) (storedH ys k b u) := by
  have mp : ∀ {xs : List (NestedKey × Addr × V)} {ys : List (NestedKey × Addr × Value)}, NV xs ys → NV (xs.map fun x => if x.1 = k then (x.1, x.2.1, v) else x) (ys.map (putAt k u)) := by
    intro xs ys r
    induction r with
    | nil => exact .nil
    | @cons p q ps qs hq t ih =>
      refine .cons ?_ ih
      unfold putAt
      by_cases e : p.1 = k
      · have e2 : q.1 = k := hq.1 ▸ e
        simp only [if_pos e, if_pos e2]
        exact ⟨hq.1, hq.2.1, rv⟩
      · have e2 : ¬ q.1 = k := fun z => e (hq.1.trans z)
        simp only [if_neg e, if_neg e2]
        exact hq
  rcases r.at_ k with ⟨a, c⟩ | ⟨v0, b0, u0, a, c, _⟩
  · unfold putN
    rw [a, storedH_new c]
    exact Paired.snoc r ⟨rfl, rfl, rv⟩
  · unfold putN
    rw [a, storedH_old c]
    exact mp r
end
section
variable {X : Cx} {Y : Wd}
section
variable {ρ : Rh} {H : Hp}
inductive NR (Y : Wd) (ρ : Rh) (H : Hp) : List (T × T) → List (NestedKey × Addr × V) → Prop
  | nil : NR Y ρ H [] []
  | cons {kt t : T} {k : NestedKey} {b : Addr} {v : V} {kvs : List (T × T)} {xs : List (NestedKey × Addr × V)} : nkT kt = some k → k.depth ≤ 8 → Rp Y ρ H kt (.ref b) → Rp Y ρ H t v → NR Y ρ H kvs xs → NR Y ρ H ((kt, t) :: kvs) ((k, b, v) :: xs)
theorem NR.of : ∀ {kvs : List (T × T)} {xs : List (NestedKey × Addr × V)}, nkT.nkTs (kvs.map (·.1)) = some (xs.map (·.1)) → (∀ x ∈ xs, x.1.depth ≤ 8) → Rps Y ρ H (kvs.map (·.1)) (xs.map fun x => V.ref x.2.1) → Rps Y ρ H (kvs.map (·.2)) (xs.map fun x => x.2.2) → NR Y ρ H kvs xs
  | [], [], _, _, _, _ => .nil
  | [], _ :: _, _, _, r, _ => by cases r
  | _ :: _, [], _, _, r, _ => by cases r
  | (kt, t) :: kvs, (k, b, v) :: xs, e, d, r1, r2 => by
    rw [List.map_cons, List.map_cons, nkT.nkTs] at e
    split at e
    · rename_i k0 ks e1 e2
      simp only [Option.some.injEq, List.cons.injEq] at e
      obtain ⟨rfl, rfl⟩ := e
      cases r1 with
      | cons a1 a2 => cases r2 with
        | cons b1 b2 => exact .cons e1 (d _ List.mem_cons_self) a1 b1 (NR.of e2 (fun x hx => d x (List.mem_cons_of_mem _ hx)) a2 b2)
    · cases e
theorem NR.to {kvs : List (T × T)} {xs : List (NestedKey × Addr × V)} (r : NR Y ρ H kvs xs) : (nkT.nkTs (kvs.map (·.1)) = some (xs.map (·.1)) ∧ ∀ x ∈ xs, x.1.depth ≤ 8) ∧ Rps Y ρ H (kvs.map (·.1)) (xs.map fun x => V.ref x.2.1) ∧ Rps Y ρ H (kvs.map (·.2)) (xs.map fun x => x.2.2) := by
  induction r with
  | nil => exact ⟨⟨rfl, fun _ h => by cases h⟩, .nil, .nil⟩
  | cons e d a b _ ih =>
    obtain ⟨⟨i1, i2⟩, i3, i4⟩ := ih
    refine ⟨⟨?_, fun x hx => ?_⟩, .cons a i3, .cons b i4⟩
    · rw [List.map_cons, List.map_cons, nkT.nkTs, e, i1]
    · rcases List.mem_cons.mp hx with rfl | hx
      · exact d
      · exact i2 x hx
theorem NR.length {kvs : List (T × T)} {xs : List (NestedKey × Addr × V)} (r : NR Y ρ H kvs xs) : xs.length = kvs.length := by
  induction r with
  | nil => rfl
  | cons _ _ _ _ _ ih => simp [ih]
theorem NR.ev {ρ' : Rh} {H' : Hp} (e : EvR ρ H ρ' H') {kvs : List (T × T)} {xs : List (NestedKey × Addr × V)} (r : NR Y ρ H kvs xs) : NR Y ρ' H' kvs xs := by
  induction r with
  | nil => exact .nil
  | cons k d a b _ ih => exact .cons k d (a.ev e) (b.ev e) ih
def getN : List (T × T) → NestedKey → Option T
  | [], _ => none
  | q :: r, k => if nkT q.1 = some k then some q.2 else getN r k
def putNT (kvs : List (T × T)) (k : NestedKey) (kt t : T) : List (T × T) :=
  if (getN kvs k).isSome = true then kvs.map (fun q => if nkT q.1 = some k then (q.1, t) else q) else kvs ++ [(kt, t)]
theorem NR.get {kvs : List (T × T)} {xs : List (NestedKey × Addr × V)} (r : NR Y ρ H kvs xs) (k : NestedKey) : (getN kvs k = none ∧ atN xs k = none) ∨ ∃ t v, getN kvs k = some t ∧ atN xs k = some v ∧ Rp Y ρ H t v := by
  induction r with
  | nil => exact .inl ⟨rfl, rfl⟩
  | @cons kt t k0 b v kvs xs e d a c _ ih =>
    by_cases q : k0 = k
    · exact .inr ⟨t, v, by simp [getN, e, q], by simp [atN, q], c⟩
    · have a1 : getN ((kt, t) :: kvs) k = getN kvs k := by simp [getN, e, q]
      have a2 : atN ((k0, b, v) :: xs) k = atN xs k := by simp [atN, q]
      rw [a1, a2]
      exact ih
theorem NR.snoc {kvs : List (T × T)} {xs : List (NestedKey × Addr × V)} (r : NR Y ρ H kvs xs) {kt t : T} {k : NestedKey} {b : Addr} {v : V} (e : nkT kt = some k) (d : k.depth ≤ 8) (a : Rp Y ρ H kt (.ref b)) (c : Rp Y ρ H t v) : NR Y ρ H (kvs ++ [(kt, t)]) (xs ++ [(k, b, v)]) := by
  induction r with
  | nil => exact .cons e d a c .nil
  | cons e' d' a' c' _ ih => exact .cons e' d' a' c' ih
theorem NR.put {kvs : List (T × T)} {xs : List (NestedKey × Addr × V)} (r : NR Y ρ H kvs xs) {kt t : T} {k : NestedKey} {b : Addr} {v : V} (e : nkT kt = some k) (d : k.depth ≤ 8) (a : Rp Y ρ H kt (.ref b)) (c : Rp Y ρ H t v) : NR Y ρ H (putNT kvs k kt t) (putN xs k b v) := by
  have mp : ∀ {kvs : List (T × T)} {xs : List (NestedKey × Addr × V)}, NR Y ρ H kvs xs → NR Y ρ H (kvs.map fun q => if nkT q.1 = some k then (q.1, t) else q) (xs.map fun x => if x.1 = k then (x.1, x.2.1, v) else x) := by
    intro kvs xs r
    induction r with
    | nil => exact .nil
    | @cons kt0 t0 k0 b0 v0 kvs xs e0 d0 a0 c0 _ ih =>
      rw [List.map_cons, List.map_cons]
      by_cases q : k0 = k
      · simp only [e0, q, if_true]
        exact .cons (q ▸ e0) (q ▸ d0) a0 c ih
      · have q2 : ¬ (some k0 = some k) := fun z => q (Option.some.inj z)
        simp only [e0, q, q2, if_false]
        exact .cons e0 d0 a0 c0 ih
  unfold putNT putN
  rcases r.get k with ⟨g1, g2⟩ | ⟨t1, v1, g1, g2, _⟩
  · rw [g1, g2]
    exact r.snoc e d a c
  · rw [g1, g2]
    exact mp r
theorem NR.or {kvs : List (T × T)} {xs : List (NestedKey × Addr × V)} {a : Addr} (r : NR Y ρ H kvs xs) (e : H a = some (.ext (NestObj Y.w a xs))) : OR Y ρ H a (.dcN kvs) := ⟨xs, e, r.to⟩
end
end
end TL
namespace TL
open PySem PySem.Spec PySem.Calls PyProof PyProof.Rows PySem.W L2 MeetsSeq
end TL
namespace TL
open PySem PySem.Spec L2 PyProof.Rows
abbrev cellsLT (N : Nat) : List Addr := [N + 4, N + 2, N + 3, N, N + 1]
structure AtLT (N a b n i : Nat) (h : Heap) : Prop where
  z : IsZip h (N + 4) (N + 2) (N + 3) .none
  ti : IsTupOf2 h (N + 2) (.ref N) (.ref (N + 1))
  tout : ∃ u v, IsTupOf2 h (N + 3) u v
  p : h.IsListIter N a i
  q : h.IsTupleIter (N + 1) b i
  le : i ≤ n
theorem AtLT.there {N a b n i : Nat} {h : Heap} (s : AtLT N a b n i h) {k : Addr} (m : k ∈ cellsLT N) : ∃ o, h.get? k = some o ∧ ∀ v, o.data ≠ .cell v := by
  simp only [List.mem_cons, List.not_mem_nil, or_false] at m
  rcases m with rfl | rfl | rfl | rfl | rfl
  · exact ⟨_, s.z, nofun⟩
  · exact ⟨_, s.ti, nofun⟩
  · obtain ⟨u, v, e⟩ := s.tout
    exact ⟨_, e, nofun⟩
  · obtain ⟨o, e, _, d⟩ := s.p
    exact ⟨o, e, fun v y => by rw [d] at y; cases y⟩
  · obtain ⟨o, e, _, d⟩ := s.q
    exact ⟨o, e, fun v y => by rw [d] at y; cases y⟩
end TL
namespace TL
open PySem PySem.Spec PySem.Calls PyProof PyProof.Rows PySem.W L2
open PySem.SeqAt PySem.W
end TL
namespace TL
open PySem PySem.Spec L2 PyProof.Rows
end TL
namespace TL
open PySem PySem.Spec L2
end TL
namespace K21
open K33
open K13
open PySem L2 TL
end K21
namespace TL
open PySem PySem.Spec L2 PyProof.Rows
end TL
namespace TL
open PySem PySem.Spec L2
end TL
namespace TL
open PySem PySem.Spec L2
end TL
namespace TL
open PySem PySem.Spec L2
end TL
namespace TL
open PySem PySem.Spec L2
end TL
namespace TL
open PySem PySem.Spec L2
end TL
namespace TL
open PySem PySem.Spec L2 PyProof.Rows
section
variable {X : Cx} {Y : Wd}
theorem room65 {k : Nat} {A : Around} (h : Room k A) : A.units + 65 < cLine := by have := room80 h; omega
end
end TL
namespace TL
open PySem PySem.Spec L2 PyProof.Rows
section
variable {X : Cx}
structure Caught (X : Cx) (pins : List (Addr × Obj)) (σ : St) (H : Hp) (B : Heap) (a : Addr) (cls : Value) (d : Option Addr) (s : Shared) : Prop where
  inv : Inv X pins σ H s
  fly : HandSPX.FlyingZ B (X.env :: X.outer) a (Zc cls d) s.heap
  free : H a = none
  back : ∀ h', B.StaysIn h' → s.heap.UpToSlots h' → Inv X pins σ H { s with heap := h' }
end
end TL
namespace TL
open PySem PySem.Spec L2 PyProof.Rows LamX
end TL
namespace TL
open PySem PySem.Spec L2 PyProof.Rows LamX
end TL
namespace TL
open PySem PySem.Spec L2
open PySem.W PySem.Calls PyProof.Rows HandSHeadRun
end TL
namespace TL
open PySem PySem.Spec L2 PyProof.Rows LamX
end TL
namespace TL
open PySem PySem.Spec L2 PyProof.Rows LamX
end TL
namespace TL
open PySem PySem.Spec PyProof.Rows L2
end TL
namespace TL
open PySem PySem.Spec PyProof.Rows L2
end TL
namespace TL
open PySem PySem.Spec L2
end TL
namespace TL
open PySem PySem.Spec PyProof.Rows L2 Builtin Builtin.ObjectAttr
structure OexB (K : PySem.W.Frag) (bmB : List Value) (newId : String) (C : Addr) : Prop where
  cls : ∃ nm q N bs bm sn sub ab col dd k0 k1 k2 k3 k5, K.lookup C = some (excClassObj nm q C N bs bm true sn sub ab col dd k0 k1 k2 k3 k5 newId) ∧ PySem.W.excTail bmB bm = true
  sa : PySem.W.findIn K (.ref C) "__setattr__" = some (some (.builtin "object.__setattr__"))
  base : PySem.W.subIn K (.ref C) (.type "BaseException") = some true
  ty : PySem.W.typeIn K (.ref C) = some (.type "type")
  kp : PySem.W.keepIn K (.ref C) = true
section
variable {K : PySem.W.Frag} {bmB : List Value} {newId : String} {C : Addr}
theorem OexB.data (T : OexB K bmB newId C) : PySem.W.excOver K C bmB = true ∧ ∃ cd, PySem.W.clsIn K C = some cd ∧ cd.hasDict = true := by
  obtain ⟨nm, q, N, bs, bm, sn, sub, ab, col, dd, k0, k1, k2, k3, k5, hC, hb⟩ := T.cls
  have e : PySem.W.clsIn K C = some { name := nm, bases := bs, mro := .ref C :: bm, ns := N, qualname := q, hasDict := true, slotNames := sn, subclasses := sub, abstract := ab, collection := col, hasDel := false } := by
    unfold PySem.W.clsIn
    rw [hC]
  refine ⟨?_, _, e, rfl⟩
  unfold PySem.W.excOver
  rw [e]
  simp [hb]
end
section
variable {X : Cx} {pins : List (Addr × Obj)} {σ : St} {H : Hp} {s : Shared} {a C : Addr} {f : Str} {y : V} {u : Value} {bmB : List Value} {B newId initId : String}
theorem first_store {A : Around} {Q : Unit → Shared → Prop} {E : Value → Shared → Prop} (SF : StoreFacts B bmB "object.__setattr__" "object") (T : OexB X.K bmB newId C) (I : Inv X pins σ H s) (e : H a = some (exo a C none)) (no : PySem.W.findIn X.K (.ref C) f = some none) (ry : RelV y u)
    (w : ∀ dx s', H dx = none → dx ≠ a → Inv X pins σ (upd (upd H dx (exd dx [(f, y)])) a (exo a C (some dx))) s' → Q () s') : wpAny (model X.prog X.w) A (setAttr (.ref a) f u) Q E s := by
  obtain ⟨hp, g, d, t, os⟩ := s
  obtain ⟨t0, ho⟩ := exo_at I.hok e
  obtain ⟨ov, cd, hcd, hdict⟩ := T.data
  have taker : PySem.W.takerIn X.K C f = some none := by unfold PySem.W.takerIn; rw [no]; rfl
  have sz : a < hp.objs.size := Heap.lt_size ho
  have free : H hp.objs.size = none := I.hok.fresh (Nat.le_refl _)
  have da : hp.objs.size ≠ a := Nat.ne_of_gt sz
  refine PySem.W.set_plain I.kIn (ox := PySem.W.excObj C t0 none .none) (od := none) ⟨ho, rfl, rfl, trivial⟩ T.sa ?_
  refine PySem.W.osa_openX (ox := PySem.W.excObj C t0 none .none) (od := none) SF I.kIn ⟨ho, rfl, rfl, trivial⟩ ov taker fun b => ?_
  refine wpAny_bind (wpAny_pure (wpAny_bind (PySem.W.instanceDict_exc ho (PySem.W.looks_clsIn I.kIn hcd) hdict ?_)))
  obtain ⟨h1, e1⟩ : ∃ h1, h1 = hp.push (PySem.W.dictOf [] 0) := ⟨_, rfl⟩
  obtain ⟨h2, e2⟩ : ∃ h2, h2 = h1.update a fun o => { o with dict := some hp.objs.size } := ⟨_, rfl⟩
  have old1 : ∀ b o, hp.get? b = some o → h1.get? b = some o := fun b o z => by rw [e1]; exact Heap.get?_push_of_some _ z
  have new1 : h1.get? hp.objs.size = some (PySem.W.dictOf [] 0) := by rw [e1]; exact Heap.get?_push_at rfl rfl
  have a1 := old1 a _ ho
  have a2 : h2.get? a = some (PySem.W.excObj C t0 (some hp.objs.size) .none) := by rw [e2]; exact Heap.get?_update_self _ a1 rfl
  have same2 : ∀ b, b ≠ a → h2.get? b = h1.get? b := fun b nb => by rw [e2]; exact Heap.get?_update_ne _ _ _ _ nb
  have ns1 : h1.Ns hp.objs.size (fun _ => none) := ⟨_, #[], _, new1, rfl, fun q hq => absurd hq (by simp), fun _ => rfl⟩
  have ns2 : h2.Ns hp.objs.size (fun _ => none) := ⟨_, #[], _, (same2 _ da).trans new1, rfl, fun q hq => absurd hq (by simp), fun _ => rfl⟩
  rw [← e1, ← e2]
  show wpAny _ _ (storeInDict hp.objs.size _ f u) _ _ _
  refine PySem.HandSPX.store_in_new ns2 fun h3 t3 ns3 same3 => ?_
  have J1 : Inv X pins σ (upd H hp.objs.size (exd hp.objs.size [])) ⟨h1, g, d, t, os⟩ := I.laid (t' := t) old1 (Nat.le_refl _) (exd_ok (Heap.Ns1.of_empty ns1) fun _ => trivial)
  have J2 : Inv X pins σ (upd (upd H hp.objs.size (exd hp.objs.size [])) a (exo a C (some hp.objs.size))) ⟨h2, g, d, t, os⟩ :=
    J1.write (t' := t) (x := a) (e := a) (by rw [upd_ne (Ne.symm da), e]; trivial) (.inl rfl) (fun b o nb z => (same2 b nb).trans z) ⟨_, a2⟩ (exo_ok a2)
  have J3 := J2.write (t' := t3) (x := hp.objs.size) (e := hp.objs.size) (o := exd hp.objs.size [(f, y)]) (h' := h3) (by rw [upd_ne da, upd_same]; trivial) (.inl rfl) (fun b o nb z => (same3.2 b nb).trans z) (let ⟨o, _, _, z, _⟩ := ns3; ⟨o, z⟩) (exd_ok ns3 (relO_put (fs := []) ry fun _ => trivial))
  refine w hp.objs.size _ free da ?_
  have eH : upd (upd (upd H hp.objs.size (exd hp.objs.size [])) a (exo a C (some hp.objs.size))) hp.objs.size (exd hp.objs.size [(f, y)]) = upd (upd H hp.objs.size (exd hp.objs.size [(f, y)])) a (exo a C (some hp.objs.size)) := by
    funext b
    by_cases b1 : b = a
    · subst b1
      rw [upd_ne (Ne.symm da), upd_same, upd_same]
    · by_cases b2 : b = hp.objs.size
      · subst b2
        rw [upd_same, upd_ne da, upd_same]
      · rw [upd_ne b2, upd_ne b1, upd_ne b2, upd_ne b1, upd_ne b2]
  rw [eH] at J3
  exact J3
end
def tOstB (K : PySem.W.Frag) (bmB : List Value) (newId : String) (f : Str) (to te : TE) : TS := fun D σ H => te σ H fun y H1 => to σ H1 fun x H2 => ∃ a C : Addr, x = .ref a ∧ OexB K bmB newId C ∧ PySem.W.findIn K (.ref C) f = some none ∧ H2 a = some (exo a C none) ∧
  ∀ dx, H2 dx = none → dx ≠ a → D.nx σ (upd (upd H2 dx (exd dx [(f, y)])) a (exo a C (some dx)))
def spInitB (K : PySem.W.Frag) (bmB : List Value) (newId : String) (f : Str) : Sp := fun vs H Q _ => ∃ (a C : Addr) (v : V), vs = [.ref a, v] ∧ OexB K bmB newId C ∧ PySem.W.findIn K (.ref C) f = some none ∧ H a = some (exo a C none) ∧
  ∀ dx, H dx = none → dx ≠ a → Q .non (upd (upd H dx (exd dx [(f, v)])) a (exo a C (some dx)))
section
variable {X : Cx} {bmB : List Value} {B newId initId : String}
theorem psStoreB {o e : Expr} {to te : TE} {f : Str} {p' pos : Pos} (SF : StoreFacts B bmB "object.__setattr__" "object") (ho : PE X o to) (he : PE X e te) (hs : swapsWith e (some (.Attribute o f p')) pos.line X.env = pure false := by rfl) : PS X (.Assign [.Attribute o f p'] e pos) (tOstB X.K bmB newId f to te) := by
  constructor
  intro pins s σ H D I w
  refine plainObj_wpAny_Assign_Attribute (thn (he.run pins s σ H _ I w) ?_) hs
  rintro v s1 ⟨y, H1, I1, ry, w1⟩
  refine thn (ho.run pins s1 σ H1 _ I1 w1) ?_
  rintro u s2 ⟨x, H2, I2, rx, a, C, rfl, T, no, ea, go⟩
  cases rx
  exact first_store SF T I2 ea no ry fun dx s3 free ne J => ⟨σ, _, J, go dx free ne⟩
end
section
variable {P : Program} {w : World} {K : PySem.W.Frag} {mg : Str → Option Value} {base : Heap} {bmB : List Value} {newId : String}
theorem fnInitB {x qual s y fld : Str} {params : Arguments} {body : List Stmt} {scope : Scope} {dvs : List V} {kws : List (Str × V)} {f : Addr} {fd : FuncData} (F : FunD K x qual params body scope dvs kws f fd) (S : FnScope [s, y] [s, y] scope)
    (hb : ∀ (cdv : Value) (A : Around) (outer : List Env) (st : Shared) (H : Hp) (E : XK), PSs (cxOf CX0 P w K mg base [s, y] qual scope f cdv A outer st H E).nox body (tOstB K bmB newId fld (tVar 0) (tVar 1))) : FnOk P w K mg base CX0 1 f fd [s, y] (spInitB K bmB newId fld) := by
  refine F.ok S (fun vs H Q E z => ?_) (fun cdv A outer st H vs Q E hr z => ⟨_, (hb cdv A outer st H E).nox, ?_⟩)
  · obtain ⟨a, C, v, rfl, _⟩ := z
    rfl
  · obtain ⟨a, C, v, rfl, T, no, ha, go⟩ := z
    exact ⟨v, rfl, .ref a, rfl, a, C, rfl, T, no, ha, go⟩
end
end TL
namespace TL
open PySem PySem.Spec PyProof.Rows L2 Builtin
section
variable {M : Model} {prog : Program} {w : World} {A : Around} {E : Value → Shared → Prop} {R : Result → Shared → Prop} {h : Heap} {g : Array GenState} {d : Drawn} {t : Nat} {os : OsState}
variable {nm q : Str} {C N : Addr} {bs bm bmB : List Value} {hdct : Bool} {sn : List Str} {sub : List Value} {ab : Bool} {col : Option Bool} {dd : Option Addr} {k0 k1 k2 k3 k5 : Option Value} {B newId initId : String} {kws : List (Str × Value)}
theorem new_lets (F : ExcBaseFacts B newId initId bmB) (same : ∀ X : String, bm.contains (.type X) = bmB.contains (.type X)) {us : List Value} {Q : Unit → Shared → Prop}
    (hC : h.get? C = some (excClassObj nm q C N bs bm hdct sn sub ab col dd k0 k1 k2 k3 k5 newId)) (z : Q () ⟨h, g, d, t, os⟩) : wpAny M A (checkBuiltinCall newId ⟨.ref C :: us, kws⟩) Q E ⟨h, g, d, t, os⟩ := by
  have has : (Value.ref C :: bm).contains (.type B) = true := (List.contains_cons ..).trans (by rw [same, F.hasB, Bool.or_true])
  have ns := F.noStar
  simp only [checkBuiltinCall, F.newKind, F.newSplit, F.newRow]
  repeat (first | exact wpAny_pure z | refine wpAny_loadPart_at hC ?_ | (refine wpAny_isSubtype_exc hC ?_; rw [has]) | refine wpAny_staticBase_exc hC ?_ | refine wpAny_madeBy_exc hC ?_ | simp only [bne_self_eq_false, Bool.false_eq_true, if_false] | wp_step)
theorem new_any (F : ExcBaseFacts B newId initId bmB) (same : ∀ X : String, bm.contains (.type X) = bmB.contains (.type X)) {us : List Value}
    (hC : h.get? C = some (excClassObj nm q C N bs bm hdct sn sub ab col dd k0 k1 k2 k3 k5 newId)) (few : us.length ≤ sizeLine)
    (z : R (.ok (.ret (.ref (h.objs.size + 1)))) ⟨(h.push (PySem.W.kdv_tup us)).push (PySem.HandSPX.excO C h.objs.size), g, d, t, os⟩) : codeAny (model prog w) A (.builtin newId ⟨.ref C :: us, kws⟩) R ⟨h, g, d, t, os⟩ := by
  have he := F.ends
  have has : ∀ X, bmB.contains (.type X) = false → (Value.ref C :: bm).contains (.type X) = false := fun X e => (List.contains_cons ..).trans (by rw [same, e]; rfl)
  have h1 : (Value.ref C :: bm).contains (.type B) = true := (List.contains_cons ..).trans (by rw [same, F.hasB, Bool.or_true])
  have h2 := has _ F.noAttr
  have h3 := has _ F.noName
  have z' : R (.ok (.ret (.ref (h.push (PySem.W.kdv_tup us)).objs.size))) ⟨(h.push (PySem.W.kdv_tup us)).push (PySem.HandSPX.excO C h.objs.size), g, d, t, os⟩ := by rw [Heap.size_push]; exact z
  refine codeAny_builtinAt F.entry (by
    unfold Builtin.«BaseException.__new__»
    refine PySem.wpAt_bind ?_
    show PySem.wpAt _ _ _ (stack >>= _) _ _ _
    refine PySem.wpAt_bind (PySem.wpAt_stack fun p below => PySem.wpAt_of_wpAny ?_)
    wp_walk
    refine PySem.wpAt_of_wpAny ?_
    rw [F.owner]
    repeat (first | with_reducible refine wpAny_madeHere_exc F.canon hC ?_ | with_reducible refine wpAny_loadPart_at hC ?_ | (with_reducible refine wpAny_isSubtype_exc hC ?_; first | rw [h1] | rw [h2] | rw [h3]) | wp_step)
    exact z')
theorem type_lets {us : List Value} {Q : Unit → Shared → Prop} (hC : h.get? C = some (excClassObj nm q C N bs bm hdct sn sub ab col dd k0 k1 k2 k3 k5 newId)) (z : Q () ⟨h, g, d, t, os⟩) :
    wpAny M A (checkBuiltinCall "type.__call__" ⟨.ref C :: us, kws⟩) Q E ⟨h, g, d, t, os⟩ := by
  have sub := tc_sub
  have ty : (⟨h, g, d, t, os⟩ : Shared).TypeIs (.ref C) "type" := ⟨_, hC, rfl⟩
  simp only [checkBuiltinCall, tc_kind, tc_split]
  repeat (any_goals (first | exact z | assumption | with_reducible refine wpAny_loadPart_at hC ?_ | with_reducible refine wpAny_onRaise ?_ | with_reducible refine wpAny_map ?_ | wp_step))
theorem made_any (F : ExcBaseFacts B newId initId bmB) (same : ∀ X : String, bm.contains (.type X) = bmB.contains (.type X)) {us : List Value} {fI : Addr}
    (hC : h.get? C = some (excClassObj nm q C N bs bm hdct sn sub ab col dd k0 k1 k2 k3 k5 newId)) (li : PySem.W.Looks (model prog w) h (typeLookup (.ref C) "__init__") (some (.ref fI)))
    (bi : ∀ self, PySem.W.Looks (model prog w) h (bindSpecial (.ref fI) self) (.ref fI, [self])) (few : us.length ≤ sizeLine)
    (run : codeAny (model prog w) (A.under (.builtin "type.__call__" ⟨.ref C :: us, kws⟩)) (.call (.ref fI) ⟨.ref (h.objs.size + 1) :: us, kws⟩) (PySem.W.InitBack (h.objs.size + 1) R)
      ⟨(h.push (PySem.W.kdv_tup us)).push (PySem.HandSPX.excO C h.objs.size), g, d, t, os⟩) : codeAny (model prog w) A (.call (.ref C) ⟨us, kws⟩) R ⟨h, g, d, t, os⟩ := by
  have f1 := tc_lookup
  have f2 := tc_bind (.ref C)
  have ty : (⟨h, g, d, t, os⟩ : Shared).TypeIs (.ref C) "type" := ⟨_, hC, rfl⟩
  have old : ∀ b o, h.get? b = some o → ((h.push (PySem.W.kdv_tup us)).push (PySem.HandSPX.excO C h.objs.size)).get? b = some o := fun b o e => Heap.get?_push_of_some _ (Heap.get?_push_of_some _ e)
  have hC2 := old _ _ hC
  have mine : ((h.push (PySem.W.kdv_tup us)).push (PySem.HandSPX.excO C h.objs.size)).get? (h.objs.size + 1) = some (PySem.HandSPX.excO C h.objs.size) := by heap_get
  have self : (Value.ref C :: bm).contains (.ref C) = true := by simp
  refine codeAny_of_tree (?_ : wpAny _ _ (callAny (.ref C) _) _ _ _)
  repeat (any_goals (first | assumption | with_reducible refine wpAny_loadPart_at hC ?_ | wp_step))
  refine ⟨rfl, ?_⟩
  refine codeAny_call_builtin_at (Code.quiet_builtin _ (by decide +kernel)) entry_typeCall (type_lets hC ?_)
  show wpAny _ (A.under (.builtin "type.__call__" ⟨.ref C :: us, kws⟩)) (Builtin.«type.__call__» ⟨.ref C :: us, kws⟩) _ _ _
  unfold Builtin.«type.__call__»
  repeat (first | with_reducible refine wpAny_loadPart_at hC ?_ | with_reducible refine wpAny_madeBy_exc hC ?_ | wp_step)
  refine codeAny_call_builtin_code (Code.quiet_builtin _ F.quiet) (new_lets F same hC (new_any F same hC few ?_))
  show wpAny _ _ _ _ _ _
  unfold isInstance
  repeat (first | with_reducible refine wpAny_loadPart_at mine ?_ | (with_reducible refine wpAny_isSubtype_exc hC2 ?_; rw [self]) | wp_step)
  show wpAny _ _ (typeLookup (.ref C) _) _ _ _
  refine (li.keeps old).at (wpAny_holding (wpAny_bind (((bi (.ref (h.objs.size + 1))).keeps old).at (wpAny_bind (wpAny_call (codeAny_mono run fun r s' z => ?_))))))
  match r, z with
  | .error e, z => exact z
  | .ok (.ret v), ⟨ev, z⟩ =>
    subst ev
    first
      | exact wpAny_pure (wpAny_pure z)
      | (wp_walk; exact z)
end
def tMkE (C : Addr) (sp : Sp) (ta : TA) : TE := fun σ H Q => ta σ H fun vs H1 => vs.length ≤ 1000 ∧ ∀ a, H1 a = none → sp (.ref a :: vs) (upd H1 a (exo a C none)) (fun v H2 => v = .non ∧ Q (.ref a) H2) (fun _ _ _ => False)
section
variable {X : Cx} {bmB : List Value} {B newId initId : String} {C fI : Addr} {k : Nat} {fd : FuncData} {ps : List Str} {sp : Sp} {pins : List (Addr × Obj)} {σ : St} {H1 : Hp} {s : Shared} {Q : VK}
theorem run_mkE {us all : List Value} {vs : List V} {kw : List (Str × Value)} (FB : ExcBaseFacts B newId initId bmB) (T : OexB X.K bmB newId C) (iC : PySem.W.findIn X.K (.ref C) "__init__" = some (some (.ref fI))) (tI : PySem.W.typeIn X.K (.ref fI) = some (.type "function"))
    (F : FnOk X.prog X.w X.K X.mg X.base CX0 k fI fd ps sp) (hr : Room (k + 1) X.A) (J : Inv X pins σ H1 s) (bd : ∀ (s : Shared) (a : Addr), X.K.In s.heap → BindsTo s fd ⟨.ref a :: us, kw⟩ (ps.zip (.ref a :: all))) (r : Vals vs all) (few : us.length ≤ sizeLine)
    (init : ∀ a, H1 a = none → sp (.ref a :: vs) (upd H1 a (exo a C none)) (fun v H2 => v = .non ∧ Q (.ref a) H2) (fun _ _ _ => False)) : wpAny (model X.prog X.w) X.A (call (.ref C) us kw) (EP X pins σ Q) X.xe s := by
  obtain ⟨nm, q, N, bs, bm, sn, sub, ab, col, dd, k0, k1, k2, k3, k5, hC, tail⟩ := T.cls
  obtain ⟨h0, g, dr, tk, os⟩ := s
  have le : h0.objs.size ≤ h0.objs.size + 1 := Nat.le_succ _
  have at1 : ((h0.push (PySem.W.kdv_tup us)).push (PySem.HandSPX.excO C h0.objs.size)).get? (h0.objs.size + 1) = some (PySem.HandSPX.excO C h0.objs.size) := by heap_get
  obtain ⟨h1, e1⟩ : ∃ h1, h1 = (h0.push (PySem.W.kdv_tup us)).push (PySem.HandSPX.excO C h0.objs.size) := ⟨_, rfl⟩
  have old : ∀ b o, h0.get? b = some o → h1.get? b = some o := fun b o z => by rw [e1]; exact Heap.get?_push_of_some _ (Heap.get?_push_of_some _ z)
  rw [← e1] at at1
  have J1 : Inv X pins σ (upd H1 (h0.objs.size + 1) (exo (h0.objs.size + 1) C none)) ⟨h1, g, dr, tk, os⟩ := J.laid (t' := tk) old le (exo_ok at1)
  have un1 : J1 = J1 := rfl
  refine wpAny_call (made_any FB (fun Z => PySem.W.excTail_contains Z bm tail) (J.kIn _ _ hC) (PySem.W.looks_findIn J.kIn iC) (fun self => PySem.W.bind_fn J.kIn self tI) few ?_)
  rw [← e1]
  refine codeAny_mono (F.run _ X.stack _ _ _ _ _ _ E0 (hr.make C us kw) (J1.env0.make C us kw) (bd _ _ J1.kIn) (.cons (show L2.RelV (.ref (h0.objs.size + 1)) (.ref (h0.objs.size + 1)) from rfl) r) (init _ (J.hok.fresh le))) ?_
  intro res s' z
  match res, z with
  | .ok (.ret u), ⟨v, H2, os2, bare, un, hok, rv, ev, q2⟩ =>
    subst ev
    exact ⟨rv, J1.after (u := .ref (h0.objs.size + 1)) ⟨.ref (h0.objs.size + 1), H2, os2, bare, un, hok, rfl, q2⟩⟩
  | .error v, z => exact z.elim
theorem pe_mkE {x : Str} {e : Expr} {es : List Expr} {ta : TA} {p pos : Pos} (FB : ExcBaseFacts B newId initId bmB) (T : OexB X.K bmB newId C) (iC : PySem.W.findIn X.K (.ref C) "__init__" = some (some (.ref fI))) (tI : PySem.W.typeIn X.K (.ref fI) = some (.type "function"))
    (F : FnOk X.prog X.w X.K X.mg X.base CX0 k fI fd ps sp) (hr : Room (k + 1) X.A) (hb : Binds X.K fd ps []) (hg : Gl X x) (hm : X.mg x = some (.ref C)) (ha : PA X (e :: es) ta)
    (hdb : (x == ("__debug__" : Str)) = false := by decide) (he : starEach (e :: es) X.env = (false, eval e X.env) :: starEach es X.env := by rfl) (hpl : (backTo pos (starEach es X.env)).any (·.1) = false := by rfl) :
    PE X (.Call (.Name x p) (e :: es) [] pos) (tMkE C sp ta) := by
  constructor
  intro pins s σ H Q I w
  refine wpAny_Call_Name_kw (ld_glob I hg hm (PySem.W.callWith_K (h₀ := X.base) I.mod.kin T.kp (thn (ha.run pos pins s σ H _ I w) ?_) he hpl) hdb)
  rintro us s1 ⟨vs, H1, J, r, few, init⟩
  refine ⟨J.kIn, run_mkE (all := us) FB T iC tI F hr J (fun s a kin => ?_) r (by have := r.length; rw [sizeLine_eq, List.nil_append]; omega) init⟩
  have sp1 := init (s1.heap.objs.size) (J.hok.fresh (Nat.le_refl _))
  have many : (Value.ref a :: us).length = ps.length := by have q := F.len _ _ _ _ sp1; have l := r.length; simp only [List.length_cons] at q ⊢; omega
  have bd := hb s (Value.ref a :: us) kin (by rw [List.append_nil]; exact many)
  rw [List.append_nil] at bd
  exact bd
theorem pe_mkEK {x : Str} {ks : List Str} {ix : List Nat} {kws : List Keyword} {ta : TA} {p pos : Pos} (FB : ExcBaseFacts B newId initId bmB) (T : OexB X.K bmB newId C) (iC : PySem.W.findIn X.K (.ref C) "__init__" = some (some (.ref fI))) (tI : PySem.W.typeIn X.K (.ref fI) = some (.type "function"))
    (F : FnOk X.prog X.w X.K X.mg X.base CX0 k fI fd ps sp) (hr : Room (k + 1) X.A) (hb : KwB X.K fd ps ks 1 ix) (hg : Gl X x) (hm : X.mg x = some (.ref C)) (ha : PK X kws ta)
    (hl : ∀ σ H R, ta σ H R → ta σ H fun vs H' => vs.length = ks.length ∧ R vs H') (hall : (backToKw pos (keywordEach kws X.env)).all (·.1.isSome) = true := by rfl) (hks : (backToKw pos (keywordEach kws X.env)).filterMap (·.1) = ks := by rfl)
    (hdb : (x == ("__debug__" : Str)) = false := by decide) (hpl : ((backTo pos (starEach [] X.env)).any (·.1) || (backToKw pos (keywordEach kws X.env)).any (·.1.isNone)) = false := by rfl) :
    PE X (.Call (.Name x p) [] kws pos) (fun σ H Q => ta σ H fun zs H1 => ∀ a, H1 a = none → sp (.ref a :: permL ix zs) (upd H1 a (exo a C none)) (fun v H2 => v = .non ∧ Q (.ref a) H2) (fun _ _ _ => False)) := by
  constructor
  intro pins s σ H Q I w
  refine wpAny_Call_Name_kw (ld_glob I hg hm (PySem.W.callWith_KW0 (first := []) (h₀ := X.base) I.mod.kin T.kp hall (thn (ha.run pos pins s σ H _ I (hl _ _ _ w)) ?_) hpl) hdb)
  rintro ws s1 ⟨zs, H1, J, r, nz, init⟩
  rw [hks]
  refine ⟨J.kIn, run_mkE (us := []) (all := permL ix ws) FB T iC tI F hr J (fun s a kin => ?_) (Vals.perm r ix) (by simp) init⟩
  exact hb.to s [.ref a] ws kin rfl (r.length.symm.trans nz)
end
end TL
namespace TL
open PySem PySem.Spec L2
open PySem.W PySem.Calls PyProof.Rows HandSHeadRun
end TL
namespace TL
open PySem PySem.Spec PyProof.Rows L2
abbrev aeM : List Value := [.type "ArithmeticError", .type "Exception", .type "BaseException", .type "object"]
abbrev aeN : String := "ArithmeticError.__new__"
end TL
namespace TL
open PySem PySem.Spec L2 PyProof.Rows LamX
open PySem.W (dataLe EachIs KeyPure KeepsBut)
end TL
namespace TL
open PySem PySem.Spec L2 PyProof.Rows LamX
open PySem.W (dataLe EachIs)
end TL
namespace TL
open PySem PySem.Spec L2
end TL
namespace TL
open PySem PySem.Spec L2
end TL
namespace TL
open PySem PySem.Spec L2 PyProof.Rows
section
variable {prog : Program} {w : World} {A : Around} {E : Value → Shared → Prop} {s : Shared} {z U V i1 i2 : Addr} {c1 c2 : List Addr} {n1 n2 i : Nat} {P1 P2 : Nat → Value → Prop} {S1 S2 : Nat → Heap → Prop}
theorem Draws.put {it : Addr} {fp : List Addr} {n : Nat} {P : Nat → Value → Prop} {St : Nat → Heap → Prop} (D : Draws prog w A it fp n P St) {i : Nat} {h : Heap} (st : St i h) (o : Obj) : St i (h.push o) := D.frame i h _ st fun b _ q e => Heap.get?_push_of_some _ e
end
end TL
namespace TL
open PySem PySem.Spec L2 PyProof.Rows
end TL
namespace TL
open PySem PySem.Spec PyProof.Rows L2
section
variable {X : Cx} {Y : Wd} {W : WX}
inductive Hds (X : Cx) (Y : Wd) : List ExceptHandler → List (Addr × (Nat → Option Bool) × MS) → Prop
  | nil : Hds X Y [] []
  | cons {x : Str} {C : Addr} {b₀ : Stmt} {suite : List Stmt} {np p : Pos} {tab : Nat → Option Bool} {g : MS} {hds : List ExceptHandler} {l : List (Addr × (Nat → Option Bool) × MS)} (hc : Names X x (.ref C)) (ht : ∀ c b C', tab c = some b → exC Y.K c = some C' → PySem.W.exmOne Y.K (.ref C') (.ref C) = some b)
      (hsu : ∀ (a : Addr) (oe : Obj) (pn : List (Addr × Obj)), PSs (X.suite a ((a, oe) :: pn)) (b₀ :: suite) (TMS Y g)) (r : Hds X Y hds l) : Hds X Y (.ExceptHandler (some (.Name x np)) none (b₀ :: suite) p :: hds) ((C, tab, g) :: l)
abbrev wish (Y : Wd) (l : List (Addr × (Nat → Option Bool) × MS)) : List (Value × (Addr → Value → Option Addr → TS)) := l.map fun q => (.ref q.1, fun _ _ _ => TMS Y q.2.2)
theorem Hds.ok {hds : List ExceptHandler} {l : List (Addr × (Nat → Option Bool) × MS)} (h : Hds X Y hds l) : HdsOk X hds (wish Y l) := by
  induction h with
  | nil => exact .nil
  | cons hc ht hsu r ih => exact .cons hc (fun a oe _ _ pn _ _ => hsu a oe pn) ih
end
def exNB (K : PySem.W.Frag) (x : Str) : Bool := PySem.W.excIn K (He.ga K x) aeM aeN && (PySem.W.keepIn K (.ref (He.ga K x)) && (decide (PySem.W.subIn K (.ref (He.ga K x)) (.type "BaseException") = some true) && decide (PySem.W.typeIn K (.ref (He.ga K x)) = some (.type "type"))))
structure ExN (K : PySem.W.Frag) (x : Str) : Prop where
  cls : PySem.W.excIn K (He.ga K x) aeM aeN = true
  kp : PySem.W.keepIn K (.ref (He.ga K x)) = true
  base : PySem.W.subIn K (.ref (He.ga K x)) (.type "BaseException") = some true
  ty : PySem.W.typeIn K (.ref (He.ga K x)) = some (.type "type")
theorem exNB_ok {K : PySem.W.Frag} {x : Str} (h : exNB K x = true) : ExN K x := by
  unfold exNB at h
  simp only [Bool.and_eq_true, decide_eq_true_eq] at h
  exact ⟨h.1, h.2.1, h.2.2.1, h.2.2.2⟩
end TL
namespace TL
open PySem PySem.Spec PyProof.Rows L2
end TL
namespace TL
open PySem PySem.Spec PyProof.Rows L2
end TL
namespace TL
open PySem PySem.Spec L2
open PySem.W PySem.Calls PyProof.Rows HandSHeadRun
end TL
namespace TL
open PySem PySem.Spec L2 L2H HotX PyProof.Rows
section
variable {P : Program} {w : World} {K : PySem.W.Frag} {mg : Str → Option Value} {base : Heap} {A : Around} {s : Shared} {H : Hp}
structure HotP (A : Around) (p : Addr × Obj) : Prop where
  hd : A.handled = some (.ref p.1)
  dt : ∃ vs : Array Value, p.2.data = .fields vs
  q : Quiet A
theorem HotP.deeper {A : Around} {p : Addr × Obj} (h : HotP A p) (env : Env) : HotP (A.deeper env) p := ⟨h.hd, h.dt, h.q⟩
end
end TL
namespace TL
open PySem PySem.Spec L2 L2H HotX PyProof.Rows
section
variable {X : Cx} {Y : Wd}
def lkT : List Str → List T → Str → Option T
  | n :: ns, t :: ts, x => if n = x then some t else lkT ns ts x
  | _, _, _ => none
theorem lkT_ok {ρ : Rh} {H : Hp} {x : Str} : ∀ {fs : List T} {vfs : List (Str × V)} {t : T}, Rps Y ρ H fs (vfs.map (·.2)) → lkT (vfs.map (·.1)) fs x = some t → ∃ v, vfs.lookup x = some v ∧ Rp Y ρ H t v
  | [], [], t, _, e => by cases e
  | [], q :: vfs, t, r, e => by cases r
  | f :: fs, [], t, r, e => by cases r
  | f :: fs, (n, v) :: vfs, t, r, e => by
    cases r with
    | cons r1 r2 =>
      unfold lkT at e
      simp only [List.map_cons] at e
      by_cases c : n = x
      · subst c
        rw [if_pos rfl] at e
        cases e
        exact ⟨v, by simp [List.lookup], r1⟩
      · rw [if_neg c] at e
        obtain ⟨v', l, r'⟩ := lkT_ok r2 e
        refine ⟨v', ?_, r'⟩
        have : (x == n) = false := by simpa using fun z : x = n => c z.symm
        simp only [List.lookup, this]
        exact l
end
end TL
namespace TL
open PySem PySem.Spec L2 L2H HotX PyProof.Rows PySem.W PySem.Calls
theorem findObj_dd {K : Frag} {C : Addr} {od : Option Obj} {name : Str} {a g : Value} (hc : (clsIn K C).isSome = true) (ha : findIn K (.ref C) name = some (some a)) (hg : specialIn K a "__get__" = some (some g)) (ht : takesIn K a = some true) : findObj K C od name = some (.bind g a) := by
  cases q : clsIn K C with
  | none => rw [q] at hc; cases hc
  | some cd => simp [findObj, q, ha, hg, ht]
section
variable {prog : Program} {w : World} {A : Around} {E : Value → Shared → Prop} {K : Frag} {x D : Addr} {ox : Obj} {od : Option Obj} {hp : Heap} {g : Array GenState} {d : Drawn} {t : Nat} {os : OsState}
theorem bga_class {R : Result → Shared → Prop} {tk : Tok} (C : L2.ExcC K D) (X : K.In hp) (I : InstAt hp x ox D od) (h : R (.ok (.ret (.ref D))) ⟨hp, g, d, t, os⟩) :
    codeAny (model prog w) A (.call (.builtin "BaseException.__getattribute__") ⟨[.ref x, .str "__class__" tk], []⟩) R ⟨hp, g, d, t, os⟩ := by
  have hc : (clsIn K D).isSome = true := by obtain ⟨cd, hc, _⟩ := any_some C.hd; rw [hc]; rfl
  have ty := I.type (M := model prog w)
  have fd := looks_find (M := model prog w) X I (findObj_dd (od := od) hc C.ha C.hn C.ht)
  have sub : Looks (model prog w) hp (isInstance (.ref x) (.type "BaseException")) true := ty.andThen (looks_subIn X C.hs)
  refine codeAny_call_builtin PySem.F.excAttr_ValueError.ga.plain PySem.F.entry_bexc_ga ?_
  refine @check_slot (model prog w) _ _ ⟨hp, g, d, t, os⟩ "BaseException.__getattribute__" "BaseException" "__getattribute__" (.ref x) [.str "__class__" tk] [] _ (by decide +kernel) (by decide +kernel) sub (PySem.F.args_bexc_ga (.ref x) (.str "__class__" tk)) ?_
  have sa : slotArgs "__getattribute__" 1 ⟨[Value.ref x, Value.str "__class__" tk], []⟩ = (pure (Value.ref x, [Value.str "__class__" tk]) : Sem _) := by first | rfl | (simp only [slotArgs]; rfl)
  have out : handedOut (.ref D) = pure (.ref D) := handedOut_of (v := .ref D) rfl
  unfold Builtin.«object.__getattribute__»
  refine wpAny_bind (wpAny_of_eq sa (wpAny_bind (wpAny_pure (wpAny_bind (ty.at (wpAny_bind (fd.at ?_)))))))
  show wpAny _ _ (holding [Value.builtin "object.__class__"] (call (.builtin "getset_descriptor.__get__") [.builtin "object.__class__", .ref x, .ref D]) >>= ret) _ _ _
  refine wpAny_bind (wpAny_holding (wpAny_call (class_get (s := ⟨hp, g, d, t, os⟩) (ox := ox) (od := od) X I C.hm ?_)))
  exact wpAny_pure h
theorem own_class {Q : Value → Shared → Prop} {tk : Tok} {fill : Bool} (C : L2.ExcC K D) (X : K.In hp) (I : InstAt hp x ox D od) (h : Q (.ref D) ⟨hp, g, d, t, os⟩) :
    wpAny (model prog w) A (getAttrByItsOwn (.ref x) (.str "__class__" tk) (.ref D) (.builtin "BaseException.__getattribute__") fill false) Q E ⟨hp, g, d, t, os⟩ := by
  have hook := looks_findIn (M := model prog w) X C.hk
  have call_ : callGetattribute (.ref x) (.str "__class__" tk) (.builtin "BaseException.__getattribute__") false = (do
      let (g, first) ← bindSpecial (.builtin "BaseException.__getattribute__") (.ref x)
      call g (first ++ [.str "__class__" tk])) := rfl
  have out : handedOut (.ref D) = pure (.ref D) := handedOut_of (v := .ref D) rfl
  unfold getAttrByItsOwn
  refine wpAny_bind ?_
  show wpAny _ _ (typeLookup (.ref D) "__getattr__") _ _ _
  refine hook.at (wpAny_bind (wpAny_attempt (wpAny_holding ?_)))
  rw [call_, PySem.F.excAttr_ValueError.ga.bind (.ref x)]
  refine wpAny_bind (wpAny_pure (wpAny_call (bga_class C X I ?_)))
  show wpAny _ _ (handedOut (.ref D)) _ _ _
  rw [out]
  exact wpAny_pure h
theorem attr_class {Q : Option Value → Shared → Prop} (C : L2.ExcC K D) (X : K.In hp) (I : InstAt hp x ox D od) (h : Q (some (.ref D)) ⟨hp, g, d, t + 1, os⟩) : wpAny (model prog w) A (getAttr? (.ref x) "__class__") Q E ⟨hp, g, d, t, os⟩ := by
  have ty := I.type (M := model prog w)
  have ga := looks_findIn (M := model prog w) X C.hg
  have ne : (onTheHeap (Value.ref D) && Value.builtin "BaseException.__getattribute__" == Value.builtin "object.__getattribute__") = false := by
    have e : (Value.builtin "BaseException.__getattribute__" == Value.builtin "object.__getattribute__") = false := by decide +kernel
    rw [e, Bool.and_false]
  unfold getAttr?
  refine wpAny_bind (wpAny_mkText ?_)
  unfold getAttrBy?
  refine wpAny_bind (wpAny_attempt ?_)
  unfold getAttrBy
  refine wpAny_holding (wpAny_bind (ty.at (wpAny_bind (ga.at ?_))))
  show wpAny _ _ (if (onTheHeap (Value.ref D) && Value.builtin "BaseException.__getattribute__" == Value.builtin "object.__getattribute__") = true then _ else _) _ _ _
  rw [if_neg (by rw [ne]; decide)]
  exact own_class C X I (wpAny_pure h)
theorem attr_classS {s : Shared} {Q : Option Value → Shared → Prop} (C : L2.ExcC K D) (X : K.In s.heap) (I : InstAt s.heap x ox D od) (h : Q (some (.ref D)) { s with toks := s.toks + 1 }) : wpAny (model prog w) A (getAttr? (.ref x) "__class__") Q E s := by
  obtain ⟨hp, g, d, t, os⟩ := s
  exact attr_class C X I h
theorem kitx_any (C : L2.ExcC K D) : KitX K (.ref x) (.ref D) (fun h => InstAt h x ox D od) where
  ty := fun _ _ _ I => I.type
  it := fun _ _ X _ => by
    obtain ⟨cd, hc, _⟩ := any_some C.hd
    unfold clsIn at hc
    split at hc
    · rename_i c' d' cd' sl' ho
      intro A' Q' E' s' k q
      unfold isType loadHead
      exact wpAny_bind (wpAny_loadPart (k _ _ (X _ _ ho)) (wpAny_pure q))
    · cases hc
  ne := fun h tp dd its n sl X htp => by
    obtain ⟨cd, hc, _⟩ := any_some C.hd
    unfold clsIn at hc
    split at hc
    · rename_i c' d' cd' sl' ho
      rw [beq_eq_false_iff_ne]
      intro q
      cases Value.ref.inj q
      cases (X _ _ ho).symm.trans htp
    · cases hc
  ca := fun X I k => attr_classS C X I k
end
end TL
namespace TL
open PySem PySem.Spec L2 L2H HotX PyProof.Rows
end TL
namespace TL
open PySem PySem.Spec L2 PyProof.Rows
section
variable {X : Cx}
theorem Caught.grow {pins : List (Addr × Obj)} {σ : St} {H : Hp} {B : Heap} {a : Addr} {cls : Value} {d : Option Addr} {s : Shared} (C : Caught X pins σ H B a cls d s) {h1 : Heap} (k : ∀ b o, s.heap.get? b = some o → h1.get? b = some o) :
    Caught X pins σ H B a cls d { s with heap := h1 } := by
  refine ⟨C.inv.kept (t' := s.toks) k, ⟨fun b o e => k b o (C.fly.1 b o e), C.fly.2.1, Heap.FunFrames.of_keeps (fun b o e _ => ⟨o, k b o e, rfl⟩) C.fly.2.2.1, ?_⟩, C.free, fun h' st u => C.back h' st ((Heap.UpToSlots.of_keeps k).trans u)⟩
  obtain ⟨oe, vs, T, oT, ts, h1, h2, h3, h4, h5, h6, h7, h8, h9⟩ := C.fly.2.2.2
  exact ⟨oe, vs, T, oT, ts, k _ _ h1, h2, h3, h4, h5, h6, k _ _ h7, h8, h9⟩
end
end TL
namespace TL
open PySem PySem.Spec L2 PyProof.Rows LamX
end TL
namespace TL
open PySem PySem.Spec L2 PyProof.Rows
section
variable {X : Cx} {Y : Wd}
theorem holds_bls {h : Heap} : ∀ {bs : List Bool} {us : List Value}, Vals (bs.map V.bl) us → PySem.W.HoldAll h us bs
  | [], _, r => by cases r; exact .nil
  | b :: bs, _, r => by
    cases r with
    | cons r1 r2 =>
      cases r1
      exact .cons (PySem.W.holds_bool b) (holds_bls r2)
def mCountB (o : T) (us : List T) (h : VH) : Res T := match (listOf h o).bind blsOf, us with
  | some bs, [.bl k] => .ok (.int (bs.count k : Nat)) h
  | _, _ => .bad
theorem mt_countB (hu : X.A.units + 65 < cLine) : MtR X "list.count" (fun x xs H Q => ∃ (a : Addr) (bs : List Bool) (k : Bool), x = .ref a ∧ xs = [.bl k] ∧ SqL X.K H a (bs.map V.bl) ∧ Q (.int (bs.count k : Nat)) H) := fun pins s σ H x xs v us Q I rx rxs h => by
  obtain ⟨a, bs, k, rfl, rfl, hs, q⟩ := h
  obtain ⟨u, rfl, t⟩ := vals1 rxs
  cases t
  cases rx
  obtain ⟨its, r, p, z⟩ := I.list hs
  refine PySem.W.count_list_datum (α := Bool) (x := k) p.isList (holds_bls r) (PySem.W.holds_bool k) (by show X.A.units + 1 + PySem.W.Datum.depth Bool < cLine; have : PySem.W.Datum.depth Bool = 0 := rfl; omega) ?_
  have e : (bs.countP fun y => decide (y = k)) = bs.count k := by
    unfold List.count
    congr 1
  rw [e]
  exact ⟨.int (bs.count k : Nat), H, I.tok _, ⟨_, rfl⟩, q⟩
theorem mt_countB' : MT Y "list" (fun x xs H Q => ∃ (a : Addr) (bs : List Bool) (k : Bool), x = .ref a ∧ xs = [.bl k] ∧ SqL Y.K H a (bs.map V.bl) ∧ Q (.int (bs.count k : Nat)) H) mCountB := fun ρ0 H0 h0 ρ H o us vo vs h t h' Q ro hr0 ev ru hr e to => by
  unfold mCountB at e
  split at e
  · rename_i ns k q
    cases e
    obtain ⟨v, rfl, rv⟩ := rps_one ru
    cases rv
    obtain ⟨ts, q1, q2⟩ := Option.bind_eq_some_iff.mp q
    obtain ⟨a, ws, rfl, hs, hz, rs⟩ := listOf_ok (ro.ev ev.toEvR) hr q1
    rw [blsOf_ok rs q2] at hs
    exact ⟨a, ns, k, rfl, rfl, hs, to.to ρ H _ .refl hr (.int _)⟩
  · cases e
end
end TL
namespace TL
open PySem PySem.Spec PyProof.Rows L2
def excB (K : PySem.W.Frag) (D : Addr) : Bool :=
  He.eqO (PySem.W.findIn K (.ref D) "__getattribute__") (some (some (.builtin "BaseException.__getattribute__"))) &&
  (He.eqO (PySem.W.findIn K (.ref D) "__getattr__") (some none) &&
  (decide (PySem.W.subIn K (.ref D) (.type "BaseException") = some true) &&
  (PySem.W.hasDictIn K D &&
  (He.eqO (PySem.W.findIn K (.ref D) "__class__") (some (some (.builtin "object.__class__"))) &&
  (He.eqO (PySem.W.specialIn K (.builtin "object.__class__") "__get__") (some (some (.builtin "getset_descriptor.__get__"))) &&
  (decide (PySem.W.takesIn K (.builtin "object.__class__") = some true) &&
  decide (PySem.W.mroIn K D (.type "object") = some true)))))))
theorem excB_ok {K : PySem.W.Frag} {D : Addr} (h : excB K D = true) : ExcC K D := by
  unfold excB at h
  simp only [Bool.and_eq_true, decide_eq_true_eq] at h
  obtain ⟨h1, h2, h3, h4, h5, h6, h7, h8⟩ := h
  exact ⟨He.eqO_ok h1, He.eqO_ok h2, h3, h4, He.eqO_ok h5, He.eqO_ok h6, h7, h8⟩
abbrev exMany : Nat := 20
theorem exC_lt {K : PySem.W.Frag} {c : Nat} {D : Addr} (h : exC K c = some D) : c < exMany := by
  unfold exC at h
  rw [Option.map_eq_some_iff] at h
  obtain ⟨q, e, _⟩ := h
  exact (List.getElem?_eq_some_iff.mp e).1
def exNames : List Str := ["given", "index", "place", "number", "told"]
def told1 (K : PySem.W.Frag) (c : Nat) (D : Addr) : Bool :=
  excB K D && (xfB K D && (exNames.all (fun n => He.eqO (PySem.W.findIn K (.ref D) n) (some none)) &&
  ((List.range exMany).all (fun i => match exC K i with
    | some Di => decide (PySem.W.kitOne K (.ref D) (.ref Di) = some (c == i))
    | none => true) &&
  (decide (PySem.W.kitOne K (.ref D) (.ref (He.ga K "WrongValue")) = some (decide (c < 14))) &&
  (decide (PySem.W.kitOne K (.ref D) (.ref (He.ga K "NoAnswer")) = some (!decide (c < 14))) &&
  decide (PySem.W.exmAny K (.ref D) [.ref (He.ga K "WrongValue"), .ref (He.ga K "NoAnswer")] = some true))))))
def toldB (K : PySem.W.Frag) : Bool := (List.range exMany).all fun c => match exC K c with
  | some D => told1 K c D
  | none => true
structure Told (K : PySem.W.Frag) (c : Nat) (D : Addr) : Prop where
  cls : ExcC K D
  xf : XfC K D
  no : ∀ n ∈ exNames, PySem.W.findIn K (.ref D) n = some none
  is : ∀ i Di, exC K i = some Di → PySem.W.kitOne K (.ref D) (.ref Di) = some (c == i)
  wv : PySem.W.kitOne K (.ref D) (.ref (He.ga K "WrongValue")) = some (decide (c < 14))
  na : PySem.W.kitOne K (.ref D) (.ref (He.ga K "NoAnswer")) = some (!decide (c < 14))
  two : PySem.W.exmAny K (.ref D) [.ref (He.ga K "WrongValue"), .ref (He.ga K "NoAnswer")] = some true
theorem toldB_ok {K : PySem.W.Frag} (h : toldB K = true) {c : Nat} {D : Addr} (hC : exC K c = some D) : Told K c D := by
  have h := List.all_eq_true.mp h c (List.mem_range.mpr (exC_lt hC))
  rw [hC] at h
  have h : told1 K c D = true := h
  unfold told1 at h
  simp only [Bool.and_eq_true, decide_eq_true_eq] at h
  obtain ⟨h1, h2, h3, h4, h5, h6, h7⟩ := h
  refine ⟨excB_ok h1, xfB_ok h2, fun n hn => He.eqO_ok (List.all_eq_true.mp h3 n hn), fun i Di hi => ?_, h5, h6, h7⟩
  have q := List.all_eq_true.mp h4 i (List.mem_range.mpr (exC_lt hi))
  rw [hi] at q
  exact of_decide_eq_true q
end TL
namespace TL
open PySem PySem.Spec PyProof.Rows L2 Builtin Builtin.ObjectAttr
section
variable {X : Cx} {pins : List (Addr × Obj)} {σ : St} {H : Hp} {s : Shared} {a C dx : Addr} {f : Str} {y : V} {u : Value} {bmB : List Value} {B newId initId : String} {fs : List (Str × V)}
theorem next_store {A : Around} {Q : Unit → Shared → Prop} {E : Value → Shared → Prop} (SF : StoreFacts B bmB "object.__setattr__" "object") (T : OexB X.K bmB newId C) (I : Inv X pins σ H s) (e : H a = some (exo a C (some dx))) (ed : H dx = some (exd dx fs)) (few : fs.length ≤ 900)
    (no : PySem.W.findIn X.K (.ref C) f = some none) (ry : RelV y u) (w : ∀ s', Inv X pins σ (upd H dx (exd dx ((f, y) :: fs))) s' → Q () s') : wpAny (model X.prog X.w) A (setAttr (.ref a) f u) Q E s := by
  obtain ⟨hp, g, d, t, os⟩ := s
  obtain ⟨t0, ho⟩ := exo_at I.hok e
  obtain ⟨mA, hns, rel⟩ := exd_at I.hok ed
  have wi := within_of rel
  obtain ⟨oD, _, _, hoD, _, _⟩ := hns.count wi
  obtain ⟨ov, cd, hcd, hdict⟩ := T.data
  have taker : PySem.W.takerIn X.K C f = some none := by unfold PySem.W.takerIn; rw [no]; rfl
  refine PySem.W.set_plain I.kIn (ox := PySem.W.excObj C t0 (some dx) .none) (od := some oD) ⟨ho, rfl, rfl, hoD⟩ T.sa ?_
  refine PySem.W.osa_openX (ox := PySem.W.excObj C t0 (some dx) .none) (od := some oD) SF I.kIn ⟨ho, rfl, rfl, hoD⟩ ov taker fun b => ?_
  refine wpAny_bind (wpAny_pure (wpAny_bind ?_))
  show wpAny _ _ (instanceDict a true) _ _ _
  unfold instanceDict
  refine wpAny_bind (wpAny_loadPart ho ?_)
  dsimp only
  refine wpAny_bind ((PySem.W.looks_clsIn I.kIn hcd) _ _ _ ⟨hp, g, d, t + 1, os⟩ (fun _ _ z => z) ?_)
  rw [hdict]
  refine wpAny_pure ?_
  show wpAny _ _ (storeInDict dx _ f u) _ _ _
  refine PySem.OEX.store_in_old hns wi (by rw [List.length_map]; omega) fun h3 t3 ns3 same3 => ?_
  refine w _ (I.write (t' := t3) (x := dx) (e := dx) (o := exd dx ((f, y) :: fs)) (h' := h3) (by rw [ed]; trivial) (.inl rfl) (fun b o nb z => (same3.2 b nb).trans z) (let ⟨o, _, _, z, _⟩ := ns3; ⟨o, z⟩) (exd_ok ns3 (relO_put ry rel)))
end
theorem exd_two {dx : Addr} {f g : Str} {v w : V} (ne : f ≠ g) : exd dx [(g, w), (f, v)] = exd dx [(f, v), (g, w)] := by
  have e : ∀ x : Str, ([(g, w), (f, v)] : List (Str × V)).lookup x = ([(f, v), (g, w)] : List (Str × V)).lookup x := fun x => by
    simp only [lookup_put]
    by_cases h1 : x = g
    · rw [if_pos h1, if_neg (fun z => ne (z.symm.trans h1)), if_pos h1]
    · rw [if_neg h1]
      by_cases h2 : x = f
      · rw [if_pos h2, if_pos h2]
      · rw [if_neg h2, if_neg h2, if_neg h1]
  unfold exd
  simp only [e]
def tOst2 (K : PySem.W.Frag) (bmB : List Value) (newId : String) (f : Str) (to te : TE) : TS := fun D σ H => te σ H fun y H1 => to σ H1 fun x H2 => ∃ (a C dx : Addr) (fs : List (Str × V)), x = .ref a ∧ OexB K bmB newId C ∧ PySem.W.findIn K (.ref C) f = some none ∧ H2 a = some (exo a C (some dx)) ∧ H2 dx = some (exd dx fs) ∧ fs.length ≤ 900 ∧
  D.nx σ (upd H2 dx (exd dx ((f, y) :: fs)))
section
variable {X : Cx} {bmB : List Value} {B newId initId : String}
theorem psStore2 {o e : Expr} {to te : TE} {f : Str} {p' pos : Pos} (SF : StoreFacts B bmB "object.__setattr__" "object") (ho : PE X o to) (he : PE X e te) (hs : swapsWith e (some (.Attribute o f p')) pos.line X.env = pure false := by rfl) : PS X (.Assign [.Attribute o f p'] e pos) (tOst2 X.K bmB newId f to te) := by
  constructor
  intro pins s σ H D I w
  refine plainObj_wpAny_Assign_Attribute (thn (he.run pins s σ H _ I w) ?_) hs
  rintro v s1 ⟨y, H1, I1, ry, w1⟩
  refine thn (ho.run pins s1 σ H1 _ I1 w1) ?_
  rintro u s2 ⟨x, H2, I2, rx, a, C, dx, fs, rfl, T, no, ea, ed, few, go⟩
  cases rx
  exact next_store SF T I2 ea ed few no ry fun s3 J => ⟨σ, _, J, go⟩
end
def spInit2 (K : PySem.W.Frag) (bmB : List Value) (newId : String) (f g : Str) : Sp := fun vs H Q _ => ∃ (a C : Addr) (v w : V), vs = [.ref a, v, w] ∧ OexB K bmB newId C ∧ PySem.W.findIn K (.ref C) f = some none ∧ PySem.W.findIn K (.ref C) g = some none ∧ H a = some (exo a C none) ∧
  ∀ dx, H dx = none → dx ≠ a → Q .non (upd (upd H dx (exd dx [(f, v), (g, w)])) a (exo a C (some dx)))
section
variable {P : Program} {w : World} {K : PySem.W.Frag} {mg : Str → Option Value} {base : Heap} {bmB : List Value} {newId : String}
theorem fnInit2 {x qual s y z f g : Str} {params : Arguments} {b1 b2 : Stmt} {scope : Scope} {dvs : List V} {kws : List (Str × V)} {fa : Addr} {fd : FuncData} (ne : f ≠ g) (F : FunD K x qual params [b1, b2] scope dvs kws fa fd) (S : FnScope [s, y, z] [s, y, z] scope)
    (h1 : ∀ (cdv : Value) (A : Around) (outer : List Env) (st : Shared) (H : Hp) (E : XK), PS (cxOf CX0 P w K mg base [s, y, z] qual scope fa cdv A outer st H E).nox b1 (tOstB K bmB newId f (tVar 0) (tVar 1)))
    (h2 : ∀ (cdv : Value) (A : Around) (outer : List Env) (st : Shared) (H : Hp) (E : XK), PS (cxOf CX0 P w K mg base [s, y, z] qual scope fa cdv A outer st H E).nox b2 (tOst2 K bmB newId g (tVar 0) (tVar 2))) : FnOk P w K mg base CX0 1 fa fd [s, y, z] (spInit2 K bmB newId f g) := by
  refine F.ok S (fun vs H Q E z => ?_) (fun cdv A outer st H vs Q E hr z => ⟨_, (pss_cons (h1 cdv A outer st H E) (pss_one (h2 cdv A outer st H E))).nox, ?_⟩)
  · obtain ⟨a, C, v, w, rfl, _⟩ := z
    rfl
  · obtain ⟨a, C, v, w, rfl, T, no1, no2, ha, go⟩ := z
    refine ⟨v, rfl, .ref a, rfl, a, C, rfl, T, no1, ha, fun dx hd ne1 => ?_⟩
    refine ⟨w, rfl, .ref a, rfl, a, C, dx, [(f, v)], rfl, T, no2, upd_same, by rw [upd_ne ne1, upd_same], by simp, ?_⟩
    have e : upd (upd (upd H dx (exd dx [(f, v)])) a (exo a C (some dx))) dx (exd dx [(g, w), (f, v)]) = upd (upd H dx (exd dx [(f, v), (g, w)])) a (exo a C (some dx)) := by
      rw [exd_two ne]
      funext b
      by_cases q1 : b = dx
      · subst q1
        rw [upd_same, upd_ne ne1, upd_same]
      · rw [upd_ne q1]
        by_cases q2 : b = a
        · subst q2; rw [upd_same, upd_same]
        · rw [upd_ne q2, upd_ne q1, upd_ne q2, upd_ne q1]
    show Q _ _
    rw [e]
    exact go dx hd ne1
end
section
variable {Y : Wd} {ρ : Rh} {H : Hp} {h : VH} {a dx C : Addr} {c : Nat} {vfs : List (Str × V)} {ts : List T}
theorem eob_at (hr : HR Y ρ H h) (ha : H a = none) (hd : H dx = none) (ne : dx ≠ a) (hc : exC Y.K c = some C) (nm : vfs.map (·.1) = (exFn c).take ts.length) (rs : Rps Y ρ H ts (vfs.map (·.2))) :
    Ev ρ H ρ (upd (upd H dx (exd dx vfs)) a (exo a C (some dx))) ∧ HR Y ρ (upd (upd H dx (exd dx vfs)) a (exo a C (some dx))) h ∧ Rp Y ρ (upd (upd H dx (exd dx vfs)) a (exo a C (some dx))) (.eob c ts) (.ref a) := by
  have ha2 : upd H dx (exd dx vfs) a = none := by rw [upd_ne (Ne.symm ne)]; exact ha
  have ev : Ev ρ H ρ (upd (upd H dx (exd dx vfs)) a (exo a C (some dx))) := (Ev.new hd).trans (Ev.new ha2)
  exact ⟨ev, (hr.new hd).new ha2, .eob hc (hr.outof ha) upd_same ⟨hr.outof hd, by rw [upd_ne ne, upd_same]⟩ nm (rs.ev ev.toEvR)⟩
theorem eob_at0 (hr : HR Y ρ H h) (ha : H a = none) (hc : exC Y.K c = some C) : Ev ρ H ρ (upd H a (exo a C none)) ∧ HR Y ρ (upd H a (exo a C none)) h ∧ Rp Y ρ (upd H a (exo a C none)) (.eob c []) (.ref a) :=
  ⟨Ev.new ha, hr.new ha, .eob (vfs := []) hc (hr.outof ha) upd_same rfl (by simp) .nil⟩
theorem upd3 {H : Hp} {a dx : Addr} {o1 o2 o3 : HO} (ne : dx ≠ a) : upd (upd (upd H a o1) dx o2) a o3 = upd (upd H dx o2) a o3 := by
  funext b
  by_cases q : b = a
  · subst q; rw [upd_same, upd_same]
  · rw [upd_ne q, upd_ne q]
    by_cases q2 : b = dx
    · subst q2; rw [upd_same, upd_same]
    · rw [upd_ne q2, upd_ne q2, upd_ne q]
end
def eMkE (c : Nat) (g : MA) : ME := fun τ h => match g τ h with
  | .ok ts h1 => .ok (.eob c ts) h1
  | .bad => .bad
theorem eMkE_in {Y : Wd} {c : Nat} {g : MA} {σ : St} {H : Hp} {Q : VK} (q : TM Y (eMkE c g) σ H Q) : TMA Y g σ H fun vs H1 => ∃ ρ τ h ts h1, g τ h = .ok ts h1 ∧ HR Y ρ H1 h1 ∧ Rps Y ρ H1 ts vs ∧ ∀ ρ' H' v, Ev ρ H1 ρ' H' → HR Y ρ' H' h1 → Rp Y ρ' H' (.eob c ts) v → Q v H' := by
  obtain ⟨ρ, τ, h, t, h', G, e, to⟩ := q
  unfold eMkE at e
  cases e1 : g τ h with
  | bad => rw [e1] at e; cases e
  | ok ts h1 =>
    rw [e1] at e
    cases e
    exact ⟨ρ, τ, h, ts, _, G, e1, ⟨fun ρ1 H1 vs ev hr rs => ⟨ρ1, τ, h, ts, _, e1, hr, rs, fun ρ' H' v ev2 hr2 r => to.to ρ' H' v (ev.trans ev2) hr2 r⟩⟩⟩
structure ExE (K : PySem.W.Frag) (bmB : List Value) (newId : String) (x : Str) : Prop where
  cls : OexB K bmB newId (He.ga K x)
  init : PySem.W.findIn K (.ref (He.ga K x)) "__init__" = some (some (.ref (He.ma K (He.ga K x) "__init__")))
  fn : PySem.W.typeIn K (.ref (He.ma K (He.ga K x) "__init__")) = some (.type "function")
section
variable {X : Cx} {Y : Wd} {bmB : List Value} {B newId initId : String} {x s y z f1 f2 : Str} {c k : Nat} {fd : FuncData} {g : MA} {p pos : Pos} {ks : List Str} {ix : List Nat} {kws : List Keyword}
theorem one_of {Y : Wd} {ρ : Rh} {H : Hp} {ts : List T} {vs : List V} (r : Rps Y ρ H ts vs) (l : ts.length = 1) : ∃ t v, ts = [t] ∧ vs = [v] := by
  match ts, vs, r, l with
  | [t], [v], _, _ => exact ⟨t, v, rfl, rfl⟩
theorem two_of {Y : Wd} {ρ : Rh} {H : Hp} {ts : List T} {vs : List V} (r : Rps Y ρ H ts vs) (l : ts.length = 2) : ∃ t u v w, ts = [t, u] ∧ vs = [v, w] := by
  match ts, vs, r, l with
  | [t, u], [v, w], _, _ => exact ⟨t, u, v, w, rfl, rfl⟩
theorem sp_one {C : Addr} {ρ : Rh} {H1 : Hp} {h1 : VH} {ts : List T} {vs : List V} {Q : VK} (hc : exC Y.K c = some C) (hfn : (exFn c).take 1 = [f1]) (T : OexB X.K bmB newId C) (no : PySem.W.findIn X.K (.ref C) f1 = some none) (l : ts.length = 1) (hr : HR Y ρ H1 h1) (rs : Rps Y ρ H1 ts vs)
    (to : ∀ ρ' H' v, Ev ρ H1 ρ' H' → HR Y ρ' H' h1 → Rp Y ρ' H' (.eob c ts) v → Q v H') : ∀ a, H1 a = none → spInitB X.K bmB newId f1 (.ref a :: vs) (upd H1 a (exo a C none)) (fun v H2 => v = .non ∧ Q (.ref a) H2) (fun _ _ _ => False) := by
  intro a ha
  obtain ⟨t, v, rfl, rfl⟩ := one_of rs l
  refine ⟨a, C, v, rfl, T, no, upd_same, fun dx hdx ne => ⟨rfl, ?_⟩⟩
  have hd : H1 dx = none := by rw [← hdx, upd_ne ne]
  rw [upd3 ne]
  obtain ⟨ev, hr2, r⟩ := eob_at (vfs := [(f1, v)]) hr ha hd ne hc (by simp [hfn]) rs
  exact to _ _ _ ev hr2 r
theorem sp_two {C : Addr} {ρ : Rh} {H1 : Hp} {h1 : VH} {ts : List T} {vs : List V} {Q : VK} (hc : exC Y.K c = some C) (hfn : (exFn c).take 2 = [f1, f2]) (T : OexB X.K bmB newId C) (n1 : PySem.W.findIn X.K (.ref C) f1 = some none) (n2 : PySem.W.findIn X.K (.ref C) f2 = some none) (l : ts.length = 2) (hr : HR Y ρ H1 h1) (rs : Rps Y ρ H1 ts vs)
    (to : ∀ ρ' H' v, Ev ρ H1 ρ' H' → HR Y ρ' H' h1 → Rp Y ρ' H' (.eob c ts) v → Q v H') : ∀ a, H1 a = none → spInit2 X.K bmB newId f1 f2 (.ref a :: vs) (upd H1 a (exo a C none)) (fun v H2 => v = .non ∧ Q (.ref a) H2) (fun _ _ _ => False) := by
  intro a ha
  obtain ⟨t, u, v, w, rfl, rfl⟩ := two_of rs l
  refine ⟨a, C, v, w, rfl, T, n1, n2, upd_same, fun dx hdx ne => ⟨rfl, ?_⟩⟩
  have hd : H1 dx = none := by rw [← hdx, upd_ne ne]
  rw [upd3 ne]
  obtain ⟨ev, hr2, r⟩ := eob_at (vfs := [(f1, v), (f2, w)]) hr ha hd ne hc (by simp [hfn]) rs
  exact to _ _ _ ev hr2 r
theorem xMkE1 {e : Expr} (FB : ExcBaseFacts B newId initId bmB) (E : ExE X.K bmB newId x) (hc : exC Y.K c = some (He.ga X.K x)) (hfn : (exFn c).take 1 = [f1]) (no : PySem.W.findIn X.K (.ref (He.ga X.K x)) f1 = some none) (F : FnOk X.prog X.w X.K X.mg X.base CX0 k (He.ma X.K (He.ga X.K x) "__init__") fd [s, y] (spInitB X.K bmB newId f1))
    (hr : Room (k + 1) X.A) (hb : Binds X.K fd [s, y] []) (hg : Gl X x) (hm : X.mg x = some (.ref (He.ga X.K x))) (ha : PA X [e] (TMA Y g)) (hl : ∀ τ h ts h', g τ h = .ok ts h' → ts.length = 1)
    (hdb : (x == ("__debug__" : Str)) = false := by decide) (he : starEach [e] X.env = (false, eval e X.env) :: starEach [] X.env := by rfl) (hpl : (backTo pos (starEach [] X.env)).any (·.1) = false := by rfl) :
    PE X (.Call (.Name x p) [e] [] pos) (TM Y (eMkE c g)) := pe_imp (pe_mkE FB E.cls E.init E.fn F hr hb hg hm ha hdb he hpl) fun σ H Q q => by
  obtain ⟨ρ, τ, h, ts, h1, G, e1, to⟩ := eMkE_in q
  refine ⟨ρ, τ, h, ts, h1, G, e1, ⟨fun ρ1 H1 vs ev hr1 rs => ?_⟩⟩
  obtain ⟨ρ2, τ2, h2, ts2, h3, e3, hr2, rs2, go⟩ := to.to ρ1 H1 vs ev hr1 rs
  have l := hl _ _ _ _ e3
  exact ⟨by rw [rs2.length, l]; decide, sp_one hc hfn E.cls no l hr2 rs2 go⟩
theorem xMkE1K (FB : ExcBaseFacts B newId initId bmB) (E : ExE X.K bmB newId x) (hc : exC Y.K c = some (He.ga X.K x)) (hfn : (exFn c).take 1 = [f1]) (no : PySem.W.findIn X.K (.ref (He.ga X.K x)) f1 = some none) (F : FnOk X.prog X.w X.K X.mg X.base CX0 k (He.ma X.K (He.ga X.K x) "__init__") fd [s, y] (spInitB X.K bmB newId f1))
    (hr : Room (k + 1) X.A) (hb : KwB X.K fd [s, y] ks 1 ix) (hg : Gl X x) (hm : X.mg x = some (.ref (He.ga X.K x))) (ha : PK X kws (TMA Y g)) (hl : ∀ τ h ts h', g τ h = .ok ts h' → ts.length = ks.length) (hp : ∀ τ h ts h', aPerm ix g τ h = .ok ts h' → ts.length = 1)
    (hall : (backToKw pos (keywordEach kws X.env)).all (·.1.isSome) = true := by rfl) (hks : (backToKw pos (keywordEach kws X.env)).filterMap (·.1) = ks := by rfl)
    (hdb : (x == ("__debug__" : Str)) = false := by decide) (hpl : ((backTo pos (starEach [] X.env)).any (·.1) || (backToKw pos (keywordEach kws X.env)).any (·.1.isNone)) = false := by rfl) :
    PE X (.Call (.Name x p) [] kws pos) (TM Y (eMkE c (aPerm ix g))) := pe_imp (pe_mkEK FB E.cls E.init E.fn F hr hb hg hm ha (fun σ H R q => tma_len hl σ H R q) hall hks hdb hpl) fun σ H Q q => by
  obtain ⟨ρ, τ, h, ts, h1, G, e1, to⟩ := tma_perm (eMkE_in q)
  refine ⟨ρ, τ, h, ts, h1, G, e1, ⟨fun ρ1 H1 vs ev hr1 rs => ?_⟩⟩
  obtain ⟨ρ2, τ2, h2, ts2, h3, e3, hr2, rs2, go⟩ := to.to ρ1 H1 vs ev hr1 rs
  exact sp_one hc hfn E.cls no (hp _ _ _ _ e3) hr2 rs2 go
theorem xMkE2 {e e' : Expr} (FB : ExcBaseFacts B newId initId bmB) (E : ExE X.K bmB newId x) (hc : exC Y.K c = some (He.ga X.K x)) (hfn : (exFn c).take 2 = [f1, f2]) (n1 : PySem.W.findIn X.K (.ref (He.ga X.K x)) f1 = some none) (n2 : PySem.W.findIn X.K (.ref (He.ga X.K x)) f2 = some none) (F : FnOk X.prog X.w X.K X.mg X.base CX0 k (He.ma X.K (He.ga X.K x) "__init__") fd [s, y, z] (spInit2 X.K bmB newId f1 f2))
    (hr : Room (k + 1) X.A) (hb : Binds X.K fd [s, y, z] []) (hg : Gl X x) (hm : X.mg x = some (.ref (He.ga X.K x))) (ha : PA X [e, e'] (TMA Y g)) (hl : ∀ τ h ts h', g τ h = .ok ts h' → ts.length = 2)
    (hdb : (x == ("__debug__" : Str)) = false := by decide) (he : starEach [e, e'] X.env = (false, eval e X.env) :: starEach [e'] X.env := by rfl) (hpl : (backTo pos (starEach [e'] X.env)).any (·.1) = false := by rfl) :
    PE X (.Call (.Name x p) [e, e'] [] pos) (TM Y (eMkE c g)) := pe_imp (pe_mkE FB E.cls E.init E.fn F hr hb hg hm ha hdb he hpl) fun σ H Q q => by
  obtain ⟨ρ, τ, h, ts, h1, G, e1, to⟩ := eMkE_in q
  refine ⟨ρ, τ, h, ts, h1, G, e1, ⟨fun ρ1 H1 vs ev hr1 rs => ?_⟩⟩
  obtain ⟨ρ2, τ2, h2, ts2, h3, e3, hr2, rs2, go⟩ := to.to ρ1 H1 vs ev hr1 rs
  have l := hl _ _ _ _ e3
  exact ⟨by rw [rs2.length, l]; decide, sp_two hc hfn E.cls n1 n2 l hr2 rs2 go⟩
theorem xMkE2K (FB : ExcBaseFacts B newId initId bmB) (E : ExE X.K bmB newId x) (hc : exC Y.K c = some (He.ga X.K x)) (hfn : (exFn c).take 2 = [f1, f2]) (n1 : PySem.W.findIn X.K (.ref (He.ga X.K x)) f1 = some none) (n2 : PySem.W.findIn X.K (.ref (He.ga X.K x)) f2 = some none) (F : FnOk X.prog X.w X.K X.mg X.base CX0 k (He.ma X.K (He.ga X.K x) "__init__") fd [s, y, z] (spInit2 X.K bmB newId f1 f2))
    (hr : Room (k + 1) X.A) (hb : KwB X.K fd [s, y, z] ks 1 ix) (hg : Gl X x) (hm : X.mg x = some (.ref (He.ga X.K x))) (ha : PK X kws (TMA Y g)) (hl : ∀ τ h ts h', g τ h = .ok ts h' → ts.length = ks.length) (hp : ∀ τ h ts h', aPerm ix g τ h = .ok ts h' → ts.length = 2)
    (hall : (backToKw pos (keywordEach kws X.env)).all (·.1.isSome) = true := by rfl) (hks : (backToKw pos (keywordEach kws X.env)).filterMap (·.1) = ks := by rfl)
    (hdb : (x == ("__debug__" : Str)) = false := by decide) (hpl : ((backTo pos (starEach [] X.env)).any (·.1) || (backToKw pos (keywordEach kws X.env)).any (·.1.isNone)) = false := by rfl) :
    PE X (.Call (.Name x p) [] kws pos) (TM Y (eMkE c (aPerm ix g))) := pe_imp (pe_mkEK FB E.cls E.init E.fn F hr hb hg hm ha (fun σ H R q => tma_len hl σ H R q) hall hks hdb hpl) fun σ H Q q => by
  obtain ⟨ρ, τ, h, ts, h1, G, e1, to⟩ := tma_perm (eMkE_in q)
  refine ⟨ρ, τ, h, ts, h1, G, e1, ⟨fun ρ1 H1 vs ev hr1 rs => ?_⟩⟩
  obtain ⟨ρ2, τ2, h2, ts2, h3, e3, hr2, rs2, go⟩ := to.to ρ1 H1 vs ev hr1 rs
  exact sp_two hc hfn E.cls n1 n2 (hp _ _ _ _ e3) hr2 rs2 go
theorem xMkE0 (FB : ExcBaseFacts B newId initId bmB) (hc : exC Y.K c = some (He.ga X.K x)) (q : PySem.W.excIn X.K (He.ga X.K x) bmB newId = true) (kC : PySem.W.keepIn X.K (.ref (He.ga X.K x)) = true) (hg : Gl X x) (hm : X.mg x = some (.ref (He.ga X.K x))) (hdb : (x == ("__debug__" : Str)) = false := by decide) :
    PE X (.Call (.Name x p) [] [] pos) (TM Y (eMkE c aNil)) := by
  constructor
  intro pins s σ H Q I w
  refine wpAny_Call_Name_kw (ld_glob I hg hm (PySem.W.callWith_K0 I.kIn kC ?_) hdb)
  obtain ⟨bm, N, nm, qn, bs, hdct, sn, sub, ab, col, dd, k0, k1, k2, k3, k5, mN, hC, hN, no, T⟩ := exc_obj I.kIn q
  refine wpAny_call_exc_subT FB T hC hN no (fun h' e made => ?_) (Nat.zero_le _)
  obtain ⟨t, he, _, _⟩ := made.there
  have nH := I.hok.gone made.new
  obtain ⟨ρ, τ, h, ts, h1, G, e1, to⟩ := eMkE_in w
  cases e1
  obtain ⟨ρ2, τ2, h2, ts2, h3, e3, hr2, rs2, go⟩ := to.to ρ H [] .refl G.hr .nil
  cases e3
  obtain ⟨ev, hr3, r⟩ := eob_at0 (a := e) hr2 nH hc
  exact ⟨.ref e, _, I.laidN (t' := s.toks) made.keeps made.new nH (exo_ok he), rfl, go _ _ _ ev hr3 r⟩
end
end TL
namespace TL
open PySem PySem.Spec PyProof.Rows L2 L2H HotX
section
variable {X : Cx} {Y : Wd}
theorem eob_inst {pins : List (Addr × Obj)} {σ : St} {H : Hp} {s : Shared} {ρ : Rh} {a C : Addr} {d : Option Addr} {vfs : List (Str × V)} (I : Inv X pins σ H s) (e : H a = some (exo a C d)) (g : EdAt ρ H d vfs) :
    ∃ oe od, PySem.W.InstAt s.heap a oe C od ∧ (vfs ≠ [] → ∃ (mA : Str → Option Value) (o1 : Obj), od = some o1 ∧ (∀ f, RelO (vfs.lookup f) (mA f)) ∧ ∀ f, PySem.W.lookIn f o1 = some (mA f)) := by
  obtain ⟨t0, ho⟩ := exo_at I.hok e
  cases d with
  | none => exact ⟨_, none, ⟨ho, rfl, rfl, trivial⟩, fun z => absurd g z⟩
  | some dx =>
    obtain ⟨mA, hns, rel⟩ := exd_at I.hok g.2
    obtain ⟨od, hod, hl⟩ := lookIn_ns hns
    exact ⟨_, some od, ⟨ho, rfl, rfl, hod⟩, fun _ => ⟨mA, od, rfl, rel, hl⟩⟩
def eAtE (x : Str) (f : ME) : ME := fun τ h => match f τ h with
  | .ok (.eob c fs) h' => (match lkT ((exFn c).take fs.length) fs x with
    | some t => .ok t h'
    | none => .bad)
  | _ => .bad
theorem xAtE {e : Expr} {f : ME} {pos : Pos} {n : Str} (hK : X.K = Y.K) (told : toldB X.K = true) (hn : n ∈ exNames) (he : PE X e (TM Y f)) (hb : attributeBase e n X.env (eval e X.env) = eval e X.env := by rfl) : PE X (.Attribute e n pos) (TM Y (eAtE n f)) := by
  constructor
  intro pins s σ H Q I z
  obtain ⟨ρ, τ, h, t, h1, G, e1, to⟩ := z
  unfold eAtE at e1
  cases q : f τ h with
  | bad => rw [q] at e1; cases e1
  | ok u h2 =>
    rw [q] at e1
    cases u with
    | eob c fs =>
      simp only at e1
      split at e1
      · rename_i t' lk
        cases e1
        refine attr_of hb (thn (he.run pins s σ H _ I ⟨ρ, τ, h, _, _, G, q, ⟨fun ρ' H' v ev hr r => (show ∃ (ρ0 : Rh) (a C : Addr) (d : Option Addr) (vfs : List (Str × V)) (w : V), v = .ref a ∧ exC Y.K c = some C ∧ H' a = some (exo a C d) ∧ EdAt ρ0 H' d vfs ∧ vfs.lookup n = some w ∧ Q w H' from ?_)⟩⟩) ?_)
        · cases r with
          | @eob _ a C d vfs _ hc ho ha hd nm rs =>
            rw [← nm] at lk
            obtain ⟨w, lw, rw_⟩ := lkT_ok rs lk
            exact ⟨ρ', a, C, d, vfs, w, rfl, hc, ha, hd, lw, to.to ρ' H' w ev hr rw_⟩
        · rintro u s1 ⟨x, H1, I1, rx, ρ0, a, C, d, vfs, w, rfl, hc, ea, ed, l, qq⟩
          obtain rfl : u = Value.ref a := rx
          have T := toldB_ok told (hK ▸ hc)
          obtain ⟨oe, od, J, mm⟩ := eob_inst I1 ea ed
          obtain ⟨mA, o1, rfl, rel, hl⟩ := mm (fun z => by rw [z] at l; cases l)
          obtain ⟨u, hu, ru⟩ := RelO.some_of (v := w) (o := mA n) (by rw [← l]; exact rel n)
          exact HandSPX.exc_get I1.kIn J T.xf.ga T.xf.gg T.xf.exC (PySem.W.findObj_own T.xf.hdC (T.no n hn) rfl (by rw [hl, hu])) (handed_of ru) ⟨w, H1, I1.tok _, ru, qq⟩
      · cases e1
    | _ => simp only at e1; cases e1
def rIsK (Y : Wd) : List V → Hp → VK → Prop := fun xs H Q => ∃ (a D : Addr) (c0 : Nat) (d : Option Addr) (ρ : Rh) (vfs : List (Str × V)) (c : V) (cv : Value) (b : Bool), xs = [.ref a, c] ∧ ClsV c cv ∧ exC Y.K c0 = some D ∧ H a = some (exo a D d) ∧ EdAt ρ H d vfs ∧ PySem.W.kitOne Y.K (.ref D) cv = some b ∧ Q (.bl b) H
theorem call_isK (hK : X.K = Y.K) (told : toldB X.K = true) : CallR X (.builtin "isinstance") (rIsK Y) := by
  intro pins s σ H xs us Q I r z
  obtain ⟨a, D, c0, d, ρ, vfs, c, cv, b, rfl, hcv, hD, ea, ed, e, q⟩ := z
  cases r with
  | @cons _ u1 _ l1 rx rr =>
    cases rr with
    | @cons _ u2 _ l2 rt rr =>
      cases rr
      obtain rfl : u1 = Value.ref a := rx
      obtain rfl : u2 = cv := hcv.eq rt
      obtain ⟨oe, od, J, _⟩ := eob_inst I ea ed
      exact PySem.W.kia_one (kitx_any (toldB_ok told (hK ▸ hD)).cls) I.kIn J (hK ▸ e) (fun z => nomatch z) fun tk => ⟨.bl b, H, I.kept (t' := tk) fun _ _ z => z, rfl, q⟩
def eIsK (tab : Nat → Option Bool) (f : ME) : ME := fun τ h => match f τ h with
  | .ok (.eob c _) h' => (match tab c with
    | some b => .ok (.bl b) h'
    | none => .bad)
  | _ => .bad
theorem xIsK {tab : Nat → Option Bool} {e ce : Expr} {f : ME} {p pos : Pos} {cv : V} {cu : Value} (hK : X.K = Y.K) (told : toldB X.K = true) (hcv : ClsV cv cu) (ht : ∀ c D b, exC Y.K c = some D → tab c = some b → PySem.W.kitOne Y.K (.ref D) cu = some b) (he : PE X e (TM Y f)) (hc : PE X ce (tC cv))
    (hg : Gl X "isinstance") (hm : X.mg "isinstance" = none) (hs2 : starEach [ce] X.env = (false, eval ce X.env) :: starEach [] X.env := by rfl) (hs : starEach [e, ce] X.env = (false, eval e X.env) :: starEach [ce] X.env := by rfl) (hpl : (backTo pos (starEach [ce] X.env)).any (·.1) = false := by rfl) :
    PE X (.Call (.Name "isinstance" p) [e, ce] [] pos) (TM Y (eIsK tab f)) := pe_imp (pe_callB (call_isK hK told) hg hm rfl (pa_cons he (pa_cons hc pa_nil hs2) hs) (by decide) (by decide) hs hpl) fun σ H Q q => by
  obtain ⟨ρ, τ, h, t, h', G, e1, to⟩ := q
  unfold eIsK at e1
  cases q : f τ h with
  | bad => rw [q] at e1; cases e1
  | ok u h2 =>
    rw [q] at e1
    cases u with
    | eob c fs =>
      simp only at e1
      split at e1
      · rename_i b hb
        cases e1
        refine ⟨ρ, τ, h, _, _, G, q, ⟨fun ρ1 H1 v ev hr r => ?_⟩⟩
        cases r with
        | @eob _ a D d vfs _ hD ho ha hd nm rs => exact ⟨a, D, c, d, ρ1, vfs, cv, cu, b, rfl, hcv, hD, ha, hd, ht c D b hD hb, to.to ρ1 H1 _ ev hr (.bl _)⟩
      · cases e1
    | _ => simp only at e1; cases e1
end
abbrev veM : List Value := [.type "ValueError", .type "Exception", .type "BaseException", .type "object"]
abbrev veN : String := "ValueError.__new__"
def clsEB (bmB : List Value) (newId : String) (C : Addr) (o : Obj) : Bool := match o with
  | ⟨.type "type", _, .cls ⟨_, _, .ref C' :: bm, _, _, hd, _, _, _, _, del⟩, ⟨[_, _, _, _, some (.builtin n), _]⟩⟩ => decide (C' = C) && (decide (n = newId) && (hd && (!del && PySem.W.excTail bmB bm)))
  | _ => false
def exEB (K : PySem.W.Frag) (bmB : List Value) (newId : String) (x : Str) : Bool :=
  (match K.lookup (He.ga K x) with
    | some o => clsEB bmB newId (He.ga K x) o
    | none => false) &&
  (He.eqO (PySem.W.findIn K (.ref (He.ga K x)) "__setattr__") (some (some (.builtin "object.__setattr__"))) &&
  (decide (PySem.W.subIn K (.ref (He.ga K x)) (.type "BaseException") = some true) &&
  (decide (PySem.W.typeIn K (.ref (He.ga K x)) = some (.type "type")) &&
  (PySem.W.keepIn K (.ref (He.ga K x)) &&
  (He.eqO (PySem.W.findIn K (.ref (He.ga K x)) "__init__") (some (some (.ref (He.ma K (He.ga K x) "__init__")))) &&
  decide (PySem.W.typeIn K (.ref (He.ma K (He.ga K x) "__init__")) = some (.type "function")))))))
theorem exEB_ok {K : PySem.W.Frag} {bmB : List Value} {newId : String} {x : Str} (h : exEB K bmB newId x = true) : ExE K bmB newId x := by
  unfold exEB at h
  simp only [Bool.and_eq_true, decide_eq_true_eq] at h
  obtain ⟨h1, h2, h3, h4, h5, h6, h7⟩ := h
  refine ⟨⟨?_, He.eqO_ok h2, h3, h4, h5⟩, He.eqO_ok h6, h7⟩
  split at h1
  · rename_i o e
    unfold clsEB at h1
    split at h1
    · simp only [Bool.and_eq_true, decide_eq_true_eq, Bool.not_eq_true'] at h1
      obtain ⟨rfl, rfl, z2, z3, z4⟩ := h1
      subst z2 z3
      exact ⟨_, _, _, _, _, _, _, _, _, _, _, _, _, _, _, e, z4⟩
    · cases h1
  · cases h1
def isTyB (K : PySem.W.Frag) (n : String) (tab : Nat → Bool) : Bool := (List.range exMany).all fun c => match exC K c with
  | some D => decide (PySem.W.kitOne K (.ref D) (.type n) = some (tab c))
  | none => true
theorem isTyB_ok {K : PySem.W.Frag} {n : String} {tab : Nat → Bool} (h : isTyB K n tab = true) : ∀ c D b, exC K c = some D → (fun c => some (tab c)) c = some b → PySem.W.kitOne K (.ref D) (.type n) = some b := fun c D b hD hb => by
  have q := List.all_eq_true.mp h c (List.mem_range.mpr (exC_lt hD))
  rw [hD] at q
  cases hb
  exact of_decide_eq_true q
end TL
namespace TL
open PySem PySem.Spec PyProof.Rows L2
end TL
namespace TL
open PySem PySem.Spec PyProof.Rows L2
end TL
namespace TL
open PySem PySem.Spec PyProof.Rows L2
def flatD : PyData → Bool
  | .none => true
  | .bool _ => true
  | .int _ => true
  | .str _ => true
  | .tuple [] => true
  | _ => false
def keyD : Key → PyData
  | .inl i => .int i
  | .inr x => .str x
mutual
inductive Dd (K : PySem.W.Frag) (H : Hp) : V → PyData → Prop
  | pl {v : V} {d : PyData} : Dp K H v d → d.hasDict = false → Dd K H v d
  | ls {a : Addr} {vs : List V} {ds : List PyData} : SqL K H a vs → Dds K H vs ds → Dd K H (.ref a) (.list ds)
  | dc {a : Addr} {vk : List (Key × V)} {kvs : List (PyData × PyData)} : H a = some (.dK vk) → kvs.map (·.1) = vk.map (fun q => keyD q.1) → DpAll K H (vk.map (·.2)) (kvs.map (·.2)) → (kvs.map (·.2)).all flatD = true → Dd K H (.ref a) (.dict kvs)
inductive Dds (K : PySem.W.Frag) (H : Hp) : List V → List PyData → Prop
  | nil : Dds K H [] []
  | cons {v : V} {vs : List V} {d : PyData} {ds : List PyData} : Dd K H v d → Dds K H vs ds → Dds K H (v :: vs) (d :: ds)
end
def Lf (P : Program) (w : World) (h₀ : Heap) (u : Value) (d : PyData) : Prop := ∃ as bs, Reads h₀ u d as ∧ ReadAtMost h₀ d.depth bs ∧ ReprK P w bs h₀ d.depth u d.shown
section
variable {P : Program} {w : World} {h₀ : Heap}
theorem lf_plain {u : Value} {d : PyData} {as : List Addr} (r : Reads h₀ u d as) (sh : d.showable = true) (nd : d.hasDict = true → sysModules ∉ as) (z : d.shown.length ≤ sizeLine) : Lf P w h₀ u d := by
  obtain ⟨bs, b, k⟩ := ReprK.of_reads (prog := P) (w := w) r sh nd z
  exact ⟨as, bs, r, b, k⟩
def Lfs (P : Program) (w : World) (h₀ : Heap) (us : List Value) (ds : List PyData) : Prop := ∃ as bs, ReadsAll h₀ us ds as ∧ ReadAtMost h₀ (PyData.depthAll ds) bs ∧ ReprAllK P w bs h₀ (PyData.depthAll ds) us (PyData.shownAll ds)
theorem lfs_nil : Lfs P w h₀ [] [] := ⟨[], [], .nil, fun _ z => (by cases z), by rw [PyData.shownAll]; exact .nil⟩
theorem ram_mono {n m : Nat} {bs : List Addr} (le : n ≤ m) (q : ReadAtMost h₀ n bs) : ReadAtMost h₀ m bs := fun b hb => let ⟨d, as, r, l⟩ := q b hb; ⟨d, as, r, Nat.le_trans l le⟩
theorem lfs_cons {u : Value} {us : List Value} {d : PyData} {ds : List PyData} (a : Lf P w h₀ u d) (r : Lfs P w h₀ us ds) : Lfs P w h₀ (u :: us) (d :: ds) := by
  obtain ⟨as, bs, r1, b1, k1⟩ := a
  obtain ⟨cs, es, r2, b2, k2⟩ := r
  have l1 : d.depth ≤ PyData.depthAll (d :: ds) := by rw [PyData.depthAll]; exact Nat.le_max_left _ _
  have l2 : PyData.depthAll ds ≤ PyData.depthAll (d :: ds) := by rw [PyData.depthAll]; exact Nat.le_max_right _ _
  refine ⟨as ++ cs, bs ++ es, .cons r1 r2, fun b hb => (List.mem_append.mp hb).elim (ram_mono l1 b1 b) (ram_mono l2 b2 b), ?_⟩
  rw [PyData.shownAll]
  exact .cons ((k1.more fun b hb => List.mem_append.mpr (.inl hb)).level_le l1) (k2.more_le (fun b hb => List.mem_append.mpr (.inr hb)) l2)
theorem lf_list {a : Addr} {o : Obj} {us : List Value} {n : Nat} {ds : List PyData} (ha : h₀.get? a = some o) (hc : o.cls = .type "list") (hd : o.data = .seq us.toArray n) (r : Lfs P w h₀ us ds) : Lf P w h₀ (.ref a) (.list ds) ∧
    ∃ bs, a ∉ bs ∧ ReprAllK P w bs h₀ (PyData.depthAll ds) us (PyData.shownAll ds) := by
  obtain ⟨as, bs, r1, b1, k1⟩ := r
  have rd : Reads h₀ (.ref a) (.list ds) (a :: as) := .list ha hc hd r1
  have dz : (PyData.list ds).depth = PyData.depthAll ds + 1 := by rw [PyData.depth]
  have nm : a ∉ bs := not_mem_of_deeper rd (by rw [dz]; exact Nat.lt_succ_self _) b1
  refine ⟨⟨_, a :: bs, rd, fun b hb => ?_, ?_⟩, bs, nm, k1⟩
  · rcases List.mem_cons.mp hb with rfl | hb
    · exact ⟨_, _, rd, Nat.le_refl _⟩
    · exact ram_mono (by rw [dz]; exact Nat.le_succ _) b1 b hb
  · rw [dz, PyData.shown]
    cases us with
    | nil =>
      cases r1
      rw [PyData.shownAll]
      exact ReprK.listEmpty ha hc hd
    | cons x l => exact ReprK.list ha hc hd nm (by rw [k1.length_eq]; simp) (fun i y e => k1.item i y (by simpa using e))
end
section
variable {X : Cx} {pins : List (Addr × Obj)} {σ : St} {H : Hp} {s : Shared}
theorem flat_reads {h : Heap} {u : Value} {d : PyData} {as : List Addr} (f : flatD d = true) (r : Reads h u d as) : Reads h u d [] := by
  cases r with
  | none => exact .none
  | bool b => exact .bool b
  | int i t => exact .int i t
  | str x t => exact .str x t
  | list => cases f
  | dict => cases f
  | @tuple a o vs n xs as h1 h2 h3 h4 =>
    cases xs with
    | nil =>
      generalize e : vs.toList = us at h4
      cases h4
      exact .tuple h1 h2 h3 (by rw [e]; exact .nil)
    | cons x xs => cases f
theorem flats_reads (I : Inv X pins σ H s) : ∀ {vs : List V} {us : List Value} {ds : List PyData}, DpAll X.K H vs ds → ds.all flatD = true → Vals vs us → ReadsAll s.heap us ds []
  | _, _, _, .nil, _, .nil => .nil
  | _, _, _, .cons a b, f, .cons r rs => by
    simp only [List.all_cons, Bool.and_eq_true] at f
    obtain ⟨as, q⟩ := Dp.reads I _ _ _ a r
    exact .cons (as := []) (bs := []) (flat_reads f.1 q) (flats_reads I b f.2 rs)
theorem keys_reads {h : Heap} {P : Program} {w : World} : ∀ {es : List DictEntry} {vs : List (Key × Value)}, Pairs (mixKind P w) es vs → ReadsAll h (es.map (·.key)) (vs.map fun q => keyD q.1) []
  | _, _, .nil => .nil
  | e :: _, kv :: _, .cons a b c => .cons (as := []) (bs := []) (by
      obtain ⟨k, v⟩ := kv
      have a : keyIs k e.key = true := a
      rcases keyIs_shape a with ⟨i, t, rfl, q⟩ | ⟨x, t, rfl, q⟩
      · show Reads h e.key _ []; rw [q]; exact .int i t
      · show Reads h e.key _ []; rw [q]; exact .str x t) (keys_reads c)
theorem pairs_vals {P : Program} {w : World} : ∀ {es : List DictEntry} {vs : List (Key × Value)}, Pairs (mixKind P w) es vs → es.map (·.val) = vs.map (·.2)
  | _, _, .nil => rfl
  | _, _, .cons a b c => by simp only [List.map_cons]; rw [b, pairs_vals c]
theorem kv_vals : ∀ {vk : List (Key × V)} {vs : List (Key × Value)}, KV vk vs → Vals (vk.map (·.2)) (vs.map (·.2)) ∧ vs.map (·.1) = vk.map (·.1)
  | _, _, .nil => ⟨.nil, rfl⟩
  | _, _, .cons a b => ⟨.cons a.2 (kv_vals b).1, by simp only [List.map_cons]; rw [(kv_vals b).2, a.1]⟩
theorem dict_reads (I : Inv X pins σ H s) {a : Addr} {vk : List (Key × V)} {kvs : List (PyData × PyData)} (e : H a = some (.dK vk)) (ks : kvs.map (·.1) = vk.map (fun q => keyD q.1)) (vs : DpAll X.K H (vk.map (·.2)) (kvs.map (·.2))) (f : (kvs.map (·.2)).all flatD = true) :
    Reads s.heap (.ref a) (.dict kvs) [a] ∧ sysModules ∉ [a] := by
  obtain ⟨_, hd, ws, kv, o, es, ep, ho, ex, hdat, _, ps, _⟩ := dk_of I.hok e
  obtain ⟨v1, k1⟩ := kv_vals kv
  have r1 := keys_reads (h := s.heap) ps
  have r2 := flats_reads I vs f v1
  have e1 : ws.map (fun q => keyD q.1) = kvs.map (·.1) := by
    rw [ks, show (fun q : Key × Value => keyD q.1) = keyD ∘ (fun q => q.1) from rfl, show (fun q : Key × V => keyD q.1) = keyD ∘ (fun q => q.1) from rfl, ← List.map_map, ← List.map_map, k1]
  rw [e1] at r1
  refine ⟨.dict (as := []) (bs := []) ho ex.1 hdat r1 (by rw [pairs_vals ps]; exact r2), fun z => ?_⟩
  rw [List.mem_singleton.mp z] at hd
  simp at hd
mutual
theorem dd_lf (I : Inv X pins σ H s) : ∀ {v : V} {d : PyData} {u : Value}, Dd X.K H v d → RelV v u → d.showable = true → d.shown.length ≤ sizeLine → Lf X.prog X.w s.heap u d
  | _, _, _, .pl p n, r, sh, z => by
    obtain ⟨as, q⟩ := Dp.reads I _ _ _ p r
    exact lf_plain q sh (fun e => by rw [n] at e; cases e) z
  | _, _, _, .ls l ds, r, sh, z => by
    cases r
    obtain ⟨its, rv, ⟨o, n, ho, hc, _, hd⟩, _⟩ := I.list l
    rw [PyData.shown] at z
    rw [PyData.showable] at sh
    exact (lf_list ho hc hd (dds_lf I ds rv sh fun t ht => Nat.le_trans (listText_mem_le ht) z)).1
  | _, _, _, .dc e ks vs f, r, sh, z => by
    cases r
    obtain ⟨rd, ns⟩ := dict_reads I e ks vs f
    exact lf_plain rd sh (fun _ => ns) z
theorem dds_lf (I : Inv X pins σ H s) : ∀ {vs : List V} {ds : List PyData} {us : List Value}, Dds X.K H vs ds → Vals vs us → PyData.showableAll ds = true → (∀ t ∈ PyData.shownAll ds, t.length ≤ sizeLine) → Lfs X.prog X.w s.heap us ds
  | _, _, _, .nil, .nil, _, _ => lfs_nil
  | _, _, _, .cons a b, .cons r rs, sh, z => by
    rw [PyData.showableAll, Bool.and_eq_true] at sh
    rw [PyData.shownAll] at z
    exact lfs_cons (dd_lf I a r sh.1 (z _ (List.mem_cons_self ..))) (dds_lf I b rs sh.2 fun t ht => z t (List.mem_cons_of_mem _ ht))
end
def rReprK (K : PySem.W.Frag) : List V → Hp → VK → Prop := fun vs H Q => ∃ x d, vs = [x] ∧ Dd K H x d ∧ d.showable = true ∧ d.depth ≤ 12 ∧ d.shown.length ≤ sizeLine ∧ Q (.str d.shown) H
theorem cr_reprK (quiet : Quiet X.A) (room : X.A.units + 80 < cLine) : CallR X (.builtin "repr") (rReprK X.K) := by
  rintro pins s σ H _ us Q I r ⟨x, d, rfl, dd, sh, dz, sz, q⟩
  match us, r with
  | [u], .cons rx .nil =>
    cases dd with
    | pl p n => exact cr_repr quiet room _ _ _ _ _ _ _ I (.cons rx .nil) ⟨x, d, rfl, p, sh, n, dz, sz, q⟩
    | dc e ks vs f =>
      cases rx
      obtain ⟨rd, ns⟩ := dict_reads I e ks vs f
      exact repr_of_reads' rd sh (fun _ => ns) quiet (by show X.A.units + (_ + 1) < cLine; omega) (fun _ _ e => e) (fun h' t tk k => ⟨.str _, H, I.kept k, ⟨t, rfl⟩, q⟩) sz
    | ls l ds =>
      cases rx
      obtain ⟨its, rv, ⟨o, n, ho, hc, _, hd⟩, _⟩ := I.list l
      rw [PyData.shown] at sz
      rw [PyData.showable] at sh
      have dz2 := dz
      rw [PyData.depth] at dz2
      obtain ⟨_, bs, nm, k1⟩ := lf_list (P := X.prog) (w := X.w) ho hc hd (dds_lf I ds rv sh fun t ht => Nat.le_trans (listText_mem_le ht) sz)
      have fin : ∀ h' t tk, (∀ b o, s.heap.get? b = some o → h'.get? b = some o) → EP X pins σ Q (.str (PyData.list _).shown t) { s with heap := h', toks := tk } := fun h' t tk k => ⟨.str _, H, I.kept k, ⟨t, rfl⟩, q⟩
      refine call_repr_slot (by omega) ⟨o, ho, hc⟩ F.slot_list_repr.toG ?_
      cases its with
      | nil =>
        cases rv
        cases ds
        exact call_list_repr_empty ⟨o, ho, hc⟩ ho hd ⟨_, _, rfl, fin s.heap _ _ fun _ _ e => e⟩
      | cons x l =>
        exact call_list_reprK ho hc hd nm (by rw [k1.length_eq]; simp) (fun i y e => k1.item i y (by simpa using e)) quiet (fun b _ => Clear.nil b) (by show X.A.units + 1 + _ < cLine; omega) (fun _ _ e => e) (fun h' u tk k => ⟨_, _, rfl, by rw [← PyData.shown]; exact fin h' u tk k⟩) sz
end
def datF : T → Option PyData
  | .non => some .none
  | .bl b => some (.bool b)
  | .int i => some (.int i)
  | .str x => some (.str x)
  | .tup [] => some (.tuple [])
  | _ => none
def kvD : List (T × T) → Option (List (PyData × PyData))
  | [] => some []
  | (k, t) :: r => (match keyT k, datF t, kvD r with
    | some k, some d, some l => some ((keyD k, d) :: l)
    | _, _, _ => none)
def allD (f : T → Option PyData) : List T → Option (List PyData)
  | [] => some []
  | t :: r => (match f t, allD f r with
    | some d, some l => some (d :: l)
    | _, _ => none)
def datD (h : VH) : Nat → T → Option PyData
  | k + 1, .lst ts => (allD (datD h k) ts).map .list
  | _, .ref n => (match h[n]? with
    | some (.dct kvs) => (kvD kvs).map .dict
    | _ => none)
  | _, t => (match t.dat h 6 with
    | some d => if d.hasDict then none else some d
    | none => none)
def fReprK : List T → VH → Res T := fun ts h => match ts with
  | [t] => (match datD h 6 t with
    | some d => if (d.showable && decide (d.depth ≤ 12) && decide (d.shown.length ≤ 1000000)) = true then .ok (.str d.shown) h else .bad
    | none => .bad)
  | _ => .bad
section
variable {Y : Wd} {ρ : Rh} {H : Hp} {h : VH}
theorem datF_ok {t : T} {v : V} {d : PyData} (r : Rp Y ρ H t v) (e : datF t = some d) : Dp Y.K H v d ∧ flatD d = true := by
  cases r with
  | non => cases e; exact ⟨.non, rfl⟩
  | bl b => cases e; exact ⟨.bl b, rfl⟩
  | int i => cases e; exact ⟨.int i, rfl⟩
  | str hx => cases e; exact ⟨.str _, rfl⟩
  | @tup a vs ts ta rs =>
    cases ts with
    | nil =>
      cases rs
      cases e
      exact ⟨.tup ta.sq .nil, rfl⟩
    | cons x y => cases e
  | _ => cases e
theorem kvD_ok : ∀ {kvs : List (T × T)} {vk : List (Key × V)} {l : List (PyData × PyData)}, DR Y ρ H kvs vk → kvD kvs = some l → l.map (·.1) = vk.map (fun q => keyD q.1) ∧ DpAll Y.K H (vk.map (·.2)) (l.map (·.2)) ∧ (l.map (·.2)).all flatD = true
  | [], vk, l, r, e => by
    cases r
    cases e
    exact ⟨rfl, .nil, rfl⟩
  | (k, t) :: kvs, vk, l, r, e => by
    cases r with
    | cons rk rv rr =>
      unfold kvD at e
      split at e
      · rename_i k1 d l1 e1 e2 e3
        cases e
        obtain ⟨q1, q2, q3⟩ := kvD_ok rr e3
        obtain ⟨p1, p2⟩ := datF_ok rv e2
        refine ⟨?_, .cons p1 q2, by simp only [List.map_cons, List.all_cons, p2, q3, Bool.and_self]⟩
        have z := keyT_of rk
        rw [e1] at z
        rw [List.map_cons, List.map_cons, q1, Option.some.inj z]
      · cases e
theorem allD_ok {f : T → Option PyData} (hf : ∀ t v d, Rp Y ρ H t v → f t = some d → Dd Y.K H v d) : ∀ {ts : List T} {vs : List V} {ds : List PyData}, Rps Y ρ H ts vs → allD f ts = some ds → Dds Y.K H vs ds
  | [], _, _, .nil, e => by cases e; exact .nil
  | t :: ts, _, ds, .cons a b, e => by
    unfold allD at e
    split at e
    · rename_i d l e1 e2
      cases e
      exact .cons (hf _ _ _ a e1) (allD_ok hf b e2)
    · cases e
theorem datD_pl (hr : HR Y ρ H h) {t : T} {v : V} {d : PyData} (r : Rp Y ρ H t v) (e : (match t.dat h 6 with
    | some d => if d.hasDict then none else some d
    | none => none) = some d) : Dd Y.K H v d := by
  split at e
  · rename_i d' ed
    split at e
    · cases e
    · rename_i nd
      cases e
      exact .pl (dat_ok hr _ _ _ _ r ed).1 (by simpa using nd)
  · cases e
theorem datD_ref (hr : HR Y ρ H h) {n : Nat} {v : V} {d : PyData} (r : Rp Y ρ H (.ref n) v) (e : (match h[n]? with
    | some (.dct kvs) => (kvD kvs).map PyData.dict
    | _ => none) = some d) : Dd Y.K H v d := by
  split at e
  · rename_i kvs en
    obtain ⟨l, e1, rfl⟩ := Option.map_eq_some_iff.mp e
    cases r with
    | @ref _ a ha =>
      obtain ⟨vk, ea, dr⟩ := or_dct (hr.at_ n _ a en ha)
      obtain ⟨q1, q2, q3⟩ := kvD_ok dr e1
      exact .dc ea q1 q2 q3
  · cases e
theorem datD_ok (hr : HR Y ρ H h) : ∀ (k : Nat) (t : T) (v : V) (d : PyData), Rp Y ρ H t v → datD h k t = some d → Dd Y.K H v d := by
  intro k
  induction k with
  | zero =>
    intro t v d r e
    cases t with
    | ref n => exact datD_ref hr r (by simpa only [datD] using e)
    | _ => exact datD_pl hr r (by simpa only [datD] using e)
  | succ k ih =>
    intro t v d r e
    cases t with
    | ref n => exact datD_ref hr r (by simpa only [datD] using e)
    | lst ts =>
      simp only [datD] at e
      obtain ⟨ds, e1, rfl⟩ := Option.map_eq_some_iff.mp e
      cases r with
      | lst la rs => exact .ls la.sq (allD_ok ih rs e1)
    | _ => exact datD_pl hr r (by simpa only [datD] using e)
theorem ct_reprK : CT Y (rReprK Y.K) fReprK := fun ρ H ts vs h t h' Q r hr e to => by
  unfold fReprK at e
  split at e
  · rename_i u
    split at e
    · rename_i d ed
      split at e
      · rename_i c
        simp only [Bool.and_eq_true, decide_eq_true_eq] at c
        cases e
        obtain ⟨v, rfl, rv⟩ := rps_one r
        exact ⟨v, d, rfl, datD_ok hr _ _ _ _ rv ed, c.1.1, c.1.2, by rw [sizeLine_eq]; omega, to.to ρ H _ .refl hr (.str c.2)⟩
      · cases e
    · cases e
  · cases e
end
end TL
namespace TL
open PySem PySem.Spec PyProof.Rows L2
theorem bt_ValueError : bootBuiltins "ValueError" = some (.type "ValueError") := by decide +kernel
theorem bt_ArithmeticError : bootBuiltins "ArithmeticError" = some (.type "ArithmeticError") := by decide +kernel
theorem perm_len {ix : List Nat} {g : MA} {n : Nat} (hg : ∀ (τ : TS_) (h : VH) (ts : List T) (h' : VH), g τ h = .ok ts h' → ts.length = n) (hp : ∀ ts : List T, ts.length = n → (permL ix ts).length = ix.length) : ∀ (τ : TS_) (h : VH) (ts : List T) (h' : VH), aPerm ix g τ h = .ok ts h' → ts.length = ix.length := by
  intro τ h ts h' e
  unfold aPerm at e
  cases q : g τ h with
  | bad => rw [q] at e; cases e
  | ok us h1 => rw [q] at e; cases e; exact hp us (hg _ _ _ _ q)
theorem permL_1 : ∀ ts : List T, ts.length = 1 → (permL [0] ts).length = 1 := fun ts l => match ts, l with
  | [_], _ => rfl
theorem permL_2 : ∀ ts : List T, ts.length = 2 → (permL [1, 0] ts).length = 2 := fun ts l => match ts, l with
  | [_, _], _ => rfl
end TL
namespace K01
open K33
open K21
open K13
open PySem L2 TL
def s_law_firsts : MS := (sSeq (sSet 1 (eL (aLim (aCons (eTup (aCons (eMkE 0 (aCons (eVar 0) aNil)) (aCons (eMkE 0 (aPerm [0] (aCons (eVar 0) aNil))) aNil))) (aCons (eTup (aCons (eMkE 1 (aCons (eVar 0) aNil)) (aCons (eMkE 1 (aPerm [0] (aCons (eVar 0) aNil))) aNil))) aNil)))))
  (sSeq (sSet 1 (eOp bAdd (eVar 1) (eL (aLim (aCons (eTup (aCons (eMkE 2 (aCons (eVar 0) aNil)) (aCons (eMkE 2 (aPerm [0] (aCons (eVar 0) aNil))) aNil))) (aCons (eTup (aCons (eMkE 3 (aCons (eVar 0) aNil)) (aCons (eMkE 3 (aPerm [0] (aCons (eVar 0) aNil))) aNil))) aNil))))))
  (sSeq (sSet 1 (eOp bAdd (eVar 1) (eL (aLim (aCons (eTup (aCons (eMkE 4 (aCons (eVar 0) aNil)) (aCons (eMkE 4 (aPerm [0] (aCons (eVar 0) aNil))) aNil))) (aCons (eTup (aCons (eMkE 5 (aCons (eVar 0) aNil)) (aCons (eMkE 5 (aPerm [0] (aCons (eVar 0) aNil))) aNil))) aNil))))))
  (sSeq (sSet 1 (eOp bAdd (eVar 1) (eL (aLim (aCons (eTup (aCons (eMkE 6 (aCons (eVar 0) aNil)) (aCons (eMkE 6 (aPerm [0] (aCons (eVar 0) aNil))) aNil))) (aCons (eTup (aCons (eMkE 7 (aCons (eVar 0) aNil)) (aCons (eMkE 7 (aPerm [0] (aCons (eVar 0) aNil))) aNil))) aNil))))))
  (sSeq (sSet 1 (eOp bAdd (eVar 1) (eL (aLim (aCons (eTup (aCons (eMkE 8 (aCons (eVar 0) aNil)) (aCons (eMkE 8 (aPerm [0] (aCons (eVar 0) aNil))) aNil))) (aCons (eTup (aCons (eMkE 9 (aCons (eVar 0) aNil)) (aCons (eMkE 9 (aPerm [0] (aCons (eVar 0) aNil))) aNil))) aNil))))))
  (sSeq (sSet 1 (eOp bAdd (eVar 1) (eL (aLim (aCons (eTup (aCons (eMkE 10 (aCons (eVar 0) aNil)) (aCons (eMkE 10 (aPerm [0] (aCons (eVar 0) aNil))) aNil))) (aCons (eTup (aCons (eMkE 11 (aCons (eVar 0) aNil)) (aCons (eMkE 11 (aPerm [0] (aCons (eVar 0) aNil))) aNil))) aNil))))))
  (sRet (eOp bAdd (eVar 1) (eL (aLim (aCons (eTup (aCons (eMkE 12 (aCons (eVar 0) aNil)) (aCons (eMkE 12 (aPerm [0] (aCons (eVar 0) aNil))) aNil))) (aCons (eTup (aCons (eMkE 13 (aCons (eVar 0) aNil)) (aCons (eMkE 13 (aPerm [0] (aCons (eVar 0) aNil))) aNil))) aNil))))))))))))
def m_law_firsts : List T → VH → Res T := defM 2 1 s_law_firsts
def s_law_flags : MS := (sSeq (sSet 1 (eL (aLim (aCons (eIsK (fun c => some (c == 0)) (eVar 0)) (aCons (eIsK (fun c => some (c == 1)) (eVar 0)) (aCons (eIsK (fun c => some (c == 2)) (eVar 0)) aNil))))))
  (sSeq (sSet 1 (eOp bAdd (eVar 1) (eL (aLim (aCons (eIsK (fun c => some (c == 3)) (eVar 0)) (aCons (eIsK (fun c => some (c == 4)) (eVar 0)) (aCons (eIsK (fun c => some (c == 5)) (eVar 0)) aNil)))))))
  (sSeq (sSet 1 (eOp bAdd (eVar 1) (eL (aLim (aCons (eIsK (fun c => some (c == 6)) (eVar 0)) (aCons (eIsK (fun c => some (c == 7)) (eVar 0)) (aCons (eIsK (fun c => some (c == 8)) (eVar 0)) aNil)))))))
  (sSeq (sSet 1 (eOp bAdd (eVar 1) (eL (aLim (aCons (eIsK (fun c => some (c == 9)) (eVar 0)) (aCons (eIsK (fun c => some (c == 10)) (eVar 0)) (aCons (eIsK (fun c => some (c == 11)) (eVar 0)) aNil)))))))
  (sSeq (sSet 1 (eOp bAdd (eVar 1) (eL (aLim (aCons (eIsK (fun c => some (c == 12)) (eVar 0)) (aCons (eIsK (fun c => some (c == 13)) (eVar 0)) (aCons (eIsK (fun c => some (c == 14)) (eVar 0)) aNil)))))))
  (sSeq (sSet 1 (eOp bAdd (eVar 1) (eL (aLim (aCons (eIsK (fun c => some (c == 15)) (eVar 0)) (aCons (eIsK (fun c => some (c == 16)) (eVar 0)) (aCons (eIsK (fun c => some (c == 17)) (eVar 0)) aNil)))))))
  (sRet (eOp bAdd (eVar 1) (eL (aLim (aCons (eIsK (fun c => some (c == 18)) (eVar 0)) (aCons (eIsK (fun c => some (c == 19)) (eVar 0)) aNil))))))))))))
def m_law_flags : List T → VH → Res T := defM 2 1 s_law_flags
def s_law_seconds : MS := (sSeq (sSet 1 (eL (aLim (aCons (eTup (aCons (eMkE 14 (aCons (eVar 0) aNil)) (aCons (eMkE 14 (aPerm [0] (aCons (eVar 0) aNil))) aNil))) (aCons (eTup (aCons (eMkE 15 (aCons (eVar 0) aNil)) (aCons (eMkE 15 (aPerm [0] (aCons (eVar 0) aNil))) aNil))) (aCons (eTup (aCons (eMkE 16 aNil) (aCons (eMkE 16 aNil) aNil))) aNil))))))
  (sSeq (sSet 1 (eOp bAdd (eVar 1) (eL (aLim (aCons (eTup (aCons (eMkE 17 (aCons (eVar 0) (aCons (eK (.int 1)) aNil))) (aCons (eMkE 17 (aPerm [1, 0] (aCons (eK (.int 1)) (aCons (eVar 0) aNil)))) aNil))) (aCons (eTup (aCons (eMkE 18 (aCons (eVar 0) aNil)) (aCons (eMkE 18 (aPerm [0] (aCons (eVar 0) aNil))) aNil))) aNil))))))
  (sRet (eOp bAdd (eVar 1) (eL (aLim (aCons (eTup (aCons (eMkE 19 aNil) (aCons (eMkE 19 aNil) aNil))) aNil)))))))
def m_law_seconds : List T → VH → Res T := defM 2 1 s_law_seconds
def s_law_thing : MS := (sSeq (sSet 1 (eL (aLim (aCons (eK .non) (aCons (eK (.bl true)) (aCons (eK (.int 0)) (aCons (eNeg (eOp bPow (eK (.int 10)) (eK (.int 30)))) (aCons (eK (.str "")) (aCons (eK (.str "a")) (aCons (eK (.str "2: 0 1")) (aCons (eTup aNil) (aCons (eTup (aCons (eK (.str "a")) (aCons (eTup (aCons (eK (.str "b")) (aCons (eK (.int 1)) aNil))) aNil))) (aCons (eL (aLim aNil)) (aCons (eL (aLim (aCons (eL (aLim (aCons (eK (.str "a")) aNil))) aNil))) (aCons eDNew (aCons (eDisp (pCons (eK (.str "a")) (eTup aNil) pNil)) aNil))))))))))))))))
  (sRet (eOp bIx (eVar 1) (eCall m_law_draw (aCons (eVar 0) (aCons (eK (.int 13)) aNil))))))
def m_law_thing : List T → VH → Res T := defM 2 1 s_law_thing
def s_law_right : MS := (sSeq (sSet 1 (eCall m_law_thing (aCons (eVar 0) aNil)))
  (sSeq (sPar 2 3 (aCons (eCall m_law_firsts (aCons (eVar 1) aNil)) (aCons (eCall m_law_seconds (aCons (eVar 1) aNil)) aNil)))
  (sSeq (sSet 4 (eL (mLc (iSeqC (eSl (eVar 2) oNo (oSome (eK (.int 12))))) [5] (mgName 5) bYes (eL (aLim (aCons (eAtE "given" (eOp bIx (eVar 5) (eK (.int 0)))) (aCons (eAtE "given" (eOp bIx (eVar 5) (eK (.int 1)))) aNil)))))))
  (sSeq (sSet 4 (eOp bAdd (eVar 4) (eL (mLc (iSeqC (eOp bAdd (eSl (eVar 2) (oSome (eK (.int 12))) oNo) (eSl (eVar 3) (oSome (eK (.int 3))) (oSome (eK (.int 5)))))) [5] (mgName 5) bYes (eL (aLim (aCons (eAtE "index" (eOp bIx (eVar 5) (eK (.int 0)))) (aCons (eAtE "index" (eOp bIx (eVar 5) (eK (.int 1)))) aNil))))))))
  (sSeq (sSet 4 (eOp bAdd (eVar 4) (eL (aLim (aCons (eL (mLc (iSeqC (eOp bIx (eVar 3) (eK (.int 0)))) [6] (mgName 6) bYes (eAtE "place" (eVar 6)))) (aCons (eL (mLc (iSeqC (eOp bIx (eVar 3) (eK (.int 1)))) [6] (mgName 6) bYes (eAtE "number" (eVar 6)))) aNil))))))
  (sSeq (sIf (bOr (bTest (eOp bNe (eCall fReprK (aCons (eVar 4) aNil)) (eCall fReprK (aCons (eL (mMul (eL (aLim (aCons (eL (aLim (aCons (eVar 1) (aCons (eVar 1) aNil)))) aNil))) (eK (.int 18)))) aNil)))) (bTest (eOp bNe (eL (mLc (iSeqC (eOp bIx (eVar 3) (eK (.int 3)))) [6] (mgName 6) bYes (eAtE "told" (eVar 6)))) (eL (aLim (aCons (eK (.int 1)) (aCons (eK (.int 1)) aNil))))))) (sRet (eK (.bl false))) sNil)
  (sSeq (sFor (iEnumM (aCons (eOp bAdd (eVar 2) (eVar 3)) aNil)) (mgTup 2 (mgsCons (mgName 7) (mgsCons (mgName 5) mgsNil))) (sFor (iSeqC (eVar 5)) (mgName 6) (sSeq (sPar 8 9 (aCons (eCall m_law_flags (aCons (eVar 6) aNil)) (aCons (eOp bLt (eVar 7) (eK (.int 14))) aNil)))
  (sSeq (sIf (bOr (bTest (eOp bNe (eMt "list" mCountB (eVar 8) (aCons (eK (.bl true)) aNil)) (eK (.int 1)))) (bNot (bTest (eOp bIx (eVar 8) (eVar 7))))) (sRet (eK (.bl false))) sNil)
  (sSeq (sIf (bTest (eOp bNe (eL (aLim (aCons (eIsK (fun c => some (decide (c < 14))) (eVar 6)) (aCons (eIsK (fun c => some (!decide (c < 14))) (eVar 6)) aNil)))) (eL (aLim (aCons (eVar 9) (aCons (eNot (eVar 9)) aNil)))))) (sRet (eK (.bl false))) sNil)
  (sIf (bTest (eOp bNe (eL (aLim (aCons (eIsK (fun c => some (decide (c < 14))) (eVar 6)) (aCons (eIsK (fun c => some (!decide (c < 14))) (eVar 6)) aNil)))) (eL (aLim (aCons (eVar 9) (aCons (eNot (eVar 9)) aNil)))))) (sRet (eK (.bl false))) sNil))))))
  (sRet (eK (.bl true))))))))))
def m_law_right : List T → VH → Res T := defM 10 1 s_law_right
def s_law : MS := (sSeq (sSet 1 (eL (aLim (aCons (eK (.int 30)) (aCons (eK (.int 30)) (aCons (eK (.int 10)) (aCons (eK (.int 12)) (aCons (eK (.int 16)) (aCons (eK (.int 12)) aNil)))))))))
  (sSeq (sIf (bTest (eOp bNe (eVar 1) (eL (aLim (aCons (eK (.int 30)) (aCons (eK (.int 30)) (aCons (eK (.int 10)) (aCons (eK (.int 12)) (aCons (eK (.int 16)) (aCons (eK (.int 12)) aNil)))))))))) (sRet (eK (.bl false))) sNil)
  (sRet (eCall fAll (aCons (eL (mLc (iRange1 (aCons (eCall fMax2 (aCons (eK (.int 2)) (aCons (eCall fMin2 (aCons (eCall fLen (aCons (eVar 0) aNil)) (aCons (eK (.int 4)) aNil))) aNil))) aNil)) [2] (mgName 2) bYes (eCall m_law_right (aCons (eCall m_law_purse (aCons (eVar 0) (aCons (eVar 2) aNil))) aNil)))) aNil)))))
def m_law : List T → VH → Res T := defM 3 1 s_law
end K01
namespace K01
open K33
open K21
open K13
open PySem PySem.Spec L2 TL
def top (i : Nat) : Stmt := PySem.Challenge.pw_pairheld_k01_constants_and_errors.main.body.getD i (.Pass ⟨0, 0, 0, 0⟩)
def mth (i j : Nat) : Stmt := match top i with
  | .ClassDef _ _ _ b _ _ _ _ _ _ _ => b.getD j (.Pass ⟨0, 0, 0, 0⟩)
  | _ => .Pass ⟨0, 0, 0, 0⟩
def cl : ClT := []
def wd (w : World) (K : PySem.W.Frag) : Wd := wdOf w cl K
open PyProof.Rows
def fa0 : List He.Fa := [.free "ArithmeticError", .free "ValueError", .free "abs", .free "all", .free "divmod", .free "enumerate", .free "int", .free "isinstance", .free "len", .free "max", .free "min", .free "range", .free "repr", .glo "_law_purse", .glo "_law_firsts", .glo "_law_flags", .glo "_law_seconds", .glo "_law_draw", .glo "_law_thing", .glo "_law_right", .glo "law", .glo "Broken", .glo "InUse", .glo "InvalidCell", .glo "InvalidCells", .glo "InvalidClaim", .glo "InvalidIndex", .glo "InvalidMover", .glo "InvalidName", .glo "InvalidNumber"]
def fa1 : List He.Fa := [.glo "InvalidPairs", .glo "InvalidText", .glo "IsOver", .glo "NoAnswer", .glo "NotABoard", .glo "NotAMatch", .glo "NotAPattern", .glo "NotAStand", .glo "NotMutual", .glo "NothingToUndo", .glo "TooMany", .glo "UnknownName", .glo "WrongValue", .int "MOST_CELLS" 30, .int "MOST_FORCED" 16, .int "MOST_FREE" 10, .int "MOST_LINES" 30, .int "MOST_PAIRED" 12, .int "MOST_SIDE" 12]
def fa : List He.Fa := fa0 ++ fa1
def ts : List He.Tab := []
def exs (K : PySem.W.Frag) : List Bool := [toldB K, isTyB K "ArithmeticError" (fun c => !decide (c < 14)), isTyB K "ValueError" (fun c => decide (c < 14)), exEB K aeM aeN "Broken", exEB K aeM aeN "InUse", exEB K veM veN "InvalidCell", exEB K veM veN "InvalidCells", exEB K veM veN "InvalidClaim", exEB K veM veN "InvalidIndex", exEB K veM veN "InvalidMover", exEB K veM veN "InvalidName", exEB K veM veN "InvalidNumber", exEB K veM veN "InvalidPairs", exEB K veM veN "InvalidText", exNB K "IsOver", exEB K veM veN "NotABoard", exEB K veM veN "NotAMatch", exEB K veM veN "NotAPattern", exEB K veM veN "NotAStand", exEB K aeM aeN "NotMutual", exNB K "NothingToUndo", exEB K aeM aeN "TooMany", exEB K veM veN "UnknownName"]
def ex (K : PySem.W.Frag) : Bool := (exs K).all id
def d_law_purse : He.DefD := ⟨("_law_purse", none), "_law_purse", "_law_purse", defArgs (top 30), defBody (top 30), defScope (top 30), [], []⟩
def d_law_firsts : He.DefD := ⟨("_law_firsts", none), "_law_firsts", "_law_firsts", defArgs (top 33), defBody (top 33), defScope (top 33), [], []⟩
def d_law_flags : He.DefD := ⟨("_law_flags", none), "_law_flags", "_law_flags", defArgs (top 35), defBody (top 35), defScope (top 35), [], []⟩
def d_law_seconds : He.DefD := ⟨("_law_seconds", none), "_law_seconds", "_law_seconds", defArgs (top 34), defBody (top 34), defScope (top 34), [], []⟩
def d_law_draw : He.DefD := ⟨("_law_draw", none), "_law_draw", "_law_draw", defArgs (top 31), defBody (top 31), defScope (top 31), [], []⟩
def d_law_thing : He.DefD := ⟨("_law_thing", none), "_law_thing", "_law_thing", defArgs (top 32), defBody (top 32), defScope (top 32), [], []⟩
def d_law_right : He.DefD := ⟨("_law_right", none), "_law_right", "_law_right", defArgs (top 36), defBody (top 36), defScope (top 36), [], []⟩
def d_law : He.DefD := ⟨("law", none), "law", "law", defArgs (top 37), defBody (top 37), defScope (top 37), [], []⟩
def d_Broken___init__ : He.DefD := ⟨("Broken", some "__init__"), "__init__", "Broken.__init__", defArgs (mth 20 0), defBody (mth 20 0), defScope (mth 20 0), [], []⟩
def d_InUse___init__ : He.DefD := ⟨("InUse", some "__init__"), "__init__", "InUse.__init__", defArgs (mth 21 0), defBody (mth 21 0), defScope (mth 21 0), [], []⟩
def d_InvalidCell___init__ : He.DefD := ⟨("InvalidCell", some "__init__"), "__init__", "InvalidCell.__init__", defArgs (mth 8 0), defBody (mth 8 0), defScope (mth 8 0), [], []⟩
def d_InvalidCells___init__ : He.DefD := ⟨("InvalidCells", some "__init__"), "__init__", "InvalidCells.__init__", defArgs (mth 15 0), defBody (mth 15 0), defScope (mth 15 0), [], []⟩
def d_InvalidClaim___init__ : He.DefD := ⟨("InvalidClaim", some "__init__"), "__init__", "InvalidClaim.__init__", defArgs (mth 7 0), defBody (mth 7 0), defScope (mth 7 0), [], []⟩
def d_InvalidIndex___init__ : He.DefD := ⟨("InvalidIndex", some "__init__"), "__init__", "InvalidIndex.__init__", defArgs (mth 6 0), defBody (mth 6 0), defScope (mth 6 0), [], []⟩
def d_InvalidMover___init__ : He.DefD := ⟨("InvalidMover", some "__init__"), "__init__", "InvalidMover.__init__", defArgs (mth 9 0), defBody (mth 9 0), defScope (mth 9 0), [], []⟩
def d_InvalidName___init__ : He.DefD := ⟨("InvalidName", some "__init__"), "__init__", "InvalidName.__init__", defArgs (mth 5 0), defBody (mth 5 0), defScope (mth 5 0), [], []⟩
def d_InvalidNumber___init__ : He.DefD := ⟨("InvalidNumber", some "__init__"), "__init__", "InvalidNumber.__init__", defArgs (mth 4 0), defBody (mth 4 0), defScope (mth 4 0), [], []⟩
def d_InvalidPairs___init__ : He.DefD := ⟨("InvalidPairs", some "__init__"), "__init__", "InvalidPairs.__init__", defArgs (mth 16 0), defBody (mth 16 0), defScope (mth 16 0), [], []⟩
def d_InvalidText___init__ : He.DefD := ⟨("InvalidText", some "__init__"), "__init__", "InvalidText.__init__", defArgs (mth 3 0), defBody (mth 3 0), defScope (mth 3 0), [], []⟩
def d_NotABoard___init__ : He.DefD := ⟨("NotABoard", some "__init__"), "__init__", "NotABoard.__init__", defArgs (mth 11 0), defBody (mth 11 0), defScope (mth 11 0), [], []⟩
def d_NotAMatch___init__ : He.DefD := ⟨("NotAMatch", some "__init__"), "__init__", "NotAMatch.__init__", defArgs (mth 14 0), defBody (mth 14 0), defScope (mth 14 0), [], []⟩
def d_NotAPattern___init__ : He.DefD := ⟨("NotAPattern", some "__init__"), "__init__", "NotAPattern.__init__", defArgs (mth 13 0), defBody (mth 13 0), defScope (mth 13 0), [], []⟩
def d_NotAStand___init__ : He.DefD := ⟨("NotAStand", some "__init__"), "__init__", "NotAStand.__init__", defArgs (mth 12 0), defBody (mth 12 0), defScope (mth 12 0), [], []⟩
def d_NotMutual___init__ : He.DefD := ⟨("NotMutual", some "__init__"), "__init__", "NotMutual.__init__", defArgs (mth 17 0), defBody (mth 17 0), defScope (mth 17 0), [], []⟩
def d_TooMany___init__ : He.DefD := ⟨("TooMany", some "__init__"), "__init__", "TooMany.__init__", defArgs (mth 18 0), defBody (mth 18 0), defScope (mth 18 0), [], []⟩
def d_UnknownName___init__ : He.DefD := ⟨("UnknownName", some "__init__"), "__init__", "UnknownName.__init__", defArgs (mth 10 0), defBody (mth 10 0), defScope (mth 10 0), [], []⟩
def fn0 : List He.DefD := [d_law_purse, d_law_firsts, d_law_flags, d_law_seconds, d_law_draw, d_law_thing, d_law_right, d_law, d_Broken___init__, d_InUse___init__, d_InvalidCell___init__, d_InvalidCells___init__, d_InvalidClaim___init__, d_InvalidIndex___init__, d_InvalidMover___init__, d_InvalidName___init__, d_InvalidNumber___init__, d_InvalidPairs___init__, d_InvalidText___init__, d_NotABoard___init__, d_NotAMatch___init__, d_NotAPattern___init__, d_NotAStand___init__, d_NotMutual___init__, d_TooMany___init__, d_UnknownName___init__]
def fn : List He.DefD := fn0
abbrev R : PySem.W.OpenRow := PySem.W.OpenLaw.row PySem.Challenge.rw_pairheld_k01_constants_and_errors
abbrev hk : PySem.W.Hook := He.hookX 4 fa fn ts [] ex
def ob (s : PySem.W.SharedT) : He.AlX := He.obsX 4 fa fn ts [] ex (HandSHeadRun.getT s)
theorem ob_eq (s : PySem.W.SharedT) : ob s = hk.obs s.abs := He.obsX_eq (HandSHeadRun.getT_eq s)
def lo0 : List Str := ["__name__", "WrongValue", "NoAnswer", "InvalidText", "InvalidNumber", "InvalidName", "InvalidIndex", "InvalidClaim", "InvalidCell", "InvalidMover", "UnknownName", "NotABoard", "NotAStand", "NotAPattern", "NotAMatch", "InvalidCells", "InvalidPairs", "NotMutual", "TooMany", "IsOver", "Broken", "InUse", "NothingToUndo", "MOST_CELLS", "MOST_LINES", "MOST_FREE", "MOST_PAIRED", "MOST_FORCED", "MOST_SIDE", "_law_purse"]
def lo1 : List Str := ["_law_draw", "_law_thing", "_law_firsts", "_law_seconds", "_law_flags", "_law_right"]
def lo : List Str := lo0 ++ lo1
set_option maxHeartbeats 0 in
theorem run_f (w : World) : HandSHeadRun.RunEq R (PySem.W.view R.prog [37]) hk ob 24000 lo (w.withFollow "special-get-raises" false) := by intro os; kernel_rfl
set_option maxHeartbeats 0 in
theorem run_t (w : World) : HandSHeadRun.RunEq R (PySem.W.view R.prog [37]) hk ob 24000 lo (w.withFollow "special-get-raises" true) := by intro os; kernel_rfl
theorem run (w : World) : HandSHeadRun.RunEq R (PySem.W.view R.prog [37]) hk ob 24000 lo w :=
  PySem.W.byRow2 "special-get-raises" (P := fun w => HandSHeadRun.RunEq R (PySem.W.view R.prog [37]) hk ob 24000 lo w) run_f run_t w
end K01
namespace TL
open PySem PySem.Spec L2
section
variable {τ : TS_} {h h1 : VH} {p q : Bool} {c d : MB} {f g k : ME} {b b' : T → T → VH → Res T} {x y z t : T}
theorem hAll {α : Type} (l : List α) (f : α → Bool) (h : VH) : fAll [.lst (l.map fun a => T.bl (f a))] h = .ok (.bl (l.all f)) h := by
  have e : blsOf (l.map fun a => T.bl (f a)) = some (l.map f) := by
    induction l with
    | nil => rfl
    | cons a l ih => show (blsOf (l.map fun a => T.bl (f a))).map (f a :: ·) = _; rw [ih]; rfl
  simp only [fAll, fBls, TL.listOf, e]
  rw [List.all_map]
  rfl
end
end TL
namespace EV
open PySem PySem.Spec L2 TL
section
variable {τ τ1 : TS_} {h h1 h2 h3 : VH} {t u v : T} {ts us : List T} {p q : Bool} {c d : MB} {e f g k : ME} {a b : MA} {s s2 : MS} {i j : Nat} {r : Res T} {o : Out}
theorem var (w : τ[i]? = some (some t)) : eVar i τ h = .ok t h := by unfold eVar; rw [w]
theorem const : eK t τ h = .ok t h := rfl
theorem nil : aNil τ h = .ok [] h := rfl
theorem op {m : T → T → VH → Res T} (w1 : f τ h = .ok t h1) (w2 : g τ h1 = .ok u h2) (w3 : m t u h2 = r) : eOp m f g τ h = r := by unfold eOp; simp only [w1, w2, w3]
theorem call {m : List T → VH → Res T} (w1 : a τ h = .ok ts h1) (w2 : m ts h1 = r) : eCall m a τ h = r := by unfold eCall; simp only [w1, w2]
theorem cons (w1 : f τ h = .ok t h1) (w2 : a τ h1 = .ok ts h2) : aCons f a τ h = .ok (t :: ts) h2 := cons_ok w1 w2
theorem test (w : f τ h = .ok (.bl p) h1) : bTest f τ h = .ok p h1 := test_ok w
theorem bor {r : Res Bool} (w : c τ h = .ok p h1) (w2 : (if p = true then .ok true h1 else d τ h1) = r) : TL.bOr c d τ h = r := by rw [← w2]; unfold TL.bOr; simp only [w]; cases p <;> rfl
theorem seq (w1 : s τ h = .nx τ1 h1) (w2 : s2 τ1 h1 = o) : sSeq s s2 τ h = o := by unfold sSeq; simp only [w1, w2]
theorem ret (w : f τ h = .ok t h1) : sRet f τ h = .rt t h1 := ret_ok w
theorem set (w : f τ h = .ok t h1) (w2 : τ.set i (some t) = τ1) : sSet i f τ h = .nx τ1 h1 := by rw [set_ok w, w2]
theorem ite (w : c τ h = .ok p h1) (w2 : (if p = true then s τ h1 else s2 τ h1) = o) : sIf c s s2 τ h = o := by rw [← w2]; unfold sIf; simp only [w]; cases p <;> rfl
end
end EV
namespace KG
def Gap (S : Int → Int → Prop) (dx dy x y : Int) (m : Nat) : Prop := 0 < m ∧ S x y ∧ S (x + m * dx) (y + m * dy) ∧ ∀ j : Nat, 0 < j → j < m → ¬ S (x + j * dx) (y + j * dy)
def IsL (S : Int → Int → Prop) (dx dy : Int) : Option Nat → Prop
  | none => ∃ x y, ∀ k : Int, ¬ S (x + k * dx) (y + k * dy)
  | some M => (∀ x y, ∃ k : Int, S (x + k * dx) (y + k * dy)) ∧ (∃ x y, Gap S dx dy x y M) ∧ ∀ x y m, Gap S dx dy x y m → m ≤ M
theorem IsL.map {S S' : Int → Int → Prop} {dx dy dx' dy' : Int} (p q : Int → Int → Int) (hS : ∀ x y, S' x y ↔ S (p x y) (q x y)) (h1 : ∀ x y k, p (x + k * dx') (y + k * dy') = p x y + k * dx) (h2 : ∀ x y k, q (x + k * dx') (y + k * dy') = q x y + k * dy)
    (sur : ∀ u v, ∃ x y, p x y = u ∧ q x y = v) {r : Option Nat} (h : IsL S' dx' dy' r) : IsL S dx dy r := by
  have gp : ∀ x y m, Gap S' dx' dy' x y m ↔ Gap S dx dy (p x y) (q x y) m := fun x y m => by
    unfold Gap
    simp only [hS, h1, h2]
  cases r with
  | none =>
    obtain ⟨x, y, n⟩ := h
    refine ⟨p x y, q x y, fun k => ?_⟩
    rw [← h1, ← h2, ← hS]
    exact n k
  | some M =>
    obtain ⟨a, ⟨x, y, g⟩, u⟩ := h
    refine ⟨fun s t => ?_, ⟨p x y, q x y, (gp x y M).mp g⟩, fun s t m hg => ?_⟩
    · obtain ⟨x, y, rfl, rfl⟩ := sur s t
      obtain ⟨k, hk⟩ := a x y
      exact ⟨k, by rw [← h1, ← h2, ← hS]; exact hk⟩
    · obtain ⟨x, y, rfl, rfl⟩ := sur s t
      exact u x y m ((gp x y m).mpr hg)
end KG
namespace BD
open PySem L2 TL
structure Line (size : Nat) (l : List Nat) : Prop where
  ne : l ≠ []
  asc : l.Pairwise (· < ·)
  lt : ∀ c ∈ l, c < size
theorem asc_len : ∀ {l : List Nat} {a b : Nat}, l.Pairwise (· < ·) → (∀ c ∈ l, a ≤ c ∧ c < b) → l.length ≤ b - a
  | [], _, _, _, _ => Nat.zero_le _
  | x :: l, a, b, p, h => by
    rw [List.pairwise_cons] at p
    have hx := h x List.mem_cons_self
    have := asc_len (a := x + 1) (b := b) p.2 fun c hc => ⟨p.1 c hc, (h c (List.mem_cons_of_mem _ hc)).2⟩
    simp only [List.length_cons]
    omega
theorem Line.len {size : Nat} {l : List Nat} (L : Line size l) : l.length ≤ size := by
  have := asc_len (a := 0) (b := size) L.asc fun c hc => ⟨Nat.zero_le _, L.lt c hc⟩
  omega
end BD
namespace BD
open PySem L2 TL K13
structure Hand (size : Nat) (l others : List Nat) : Prop where
  asc : l.Pairwise (· < ·)
  lt : ∀ c ∈ l, c < size
  out : ∀ c ∈ l, c ∉ others
theorem Hand.len {size : Nat} {l o : List Nat} (L : Hand size l o) : l.length ≤ size := by
  have := asc_len (a := 0) (b := size) L.asc fun c hc => ⟨Nat.zero_le _, L.lt c hc⟩
  omega
end BD
namespace BD
structure Frac (X Y u l : Nat) : Prop where
  eq : u * Y = X * l
  cop : Nat.gcd u l = 1
  pos : 0 < l
theorem Frac.begin {Y : Nat} : Frac 0 Y 0 1 := ⟨by simp, rfl, by omega⟩
end BD
namespace BD
open PySem L2 TL K13
theorem Frac.lt {X Y u l k : Nat} (f : Frac X Y u l) (hY : 0 < Y) : u * k < l ↔ X * k < Y := by
  have e : u * k * Y = X * k * l := by rw [Nat.mul_right_comm, f.eq, Nat.mul_right_comm]
  constructor
  · intro h
    apply Decidable.byContradiction
    intro n
    have h1 : u * k * Y < l * Y := Nat.mul_lt_mul_of_pos_right h hY
    have h2 : Y * l ≤ X * k * l := Nat.mul_le_mul_right l (by omega)
    rw [Nat.mul_comm l Y] at h1
    omega
  · intro h
    apply Decidable.byContradiction
    intro n
    have h1 : X * k * l < Y * l := Nat.mul_lt_mul_of_pos_right h f.pos
    have h2 : l * Y ≤ u * k * Y := Nat.mul_le_mul_right Y (by omega)
    rw [Nat.mul_comm l Y] at h2
    omega
end BD
namespace BD
open PySem L2 TL K13
theorem Frac.of {X Y : Nat} (hY : 0 < Y) : Frac X Y (X / Nat.gcd X Y) (Y / Nat.gcd X Y) := by
  have gp : 0 < Nat.gcd X Y := Nat.gcd_pos_of_pos_right _ hY
  refine ⟨?_, Nat.coprime_div_gcd_div_gcd gp, Nat.div_pos (Nat.gcd_le_right _ hY) gp⟩
  have e1 := Nat.div_mul_cancel (Nat.gcd_dvd_left X Y)
  have e2 := Nat.div_mul_cancel (Nat.gcd_dvd_right X Y)
  generalize X / Nat.gcd X Y = x at *
  generalize Y / Nat.gcd X Y = y at *
  generalize Nat.gcd X Y = g at *
  rw [← e1, ← e2, Nat.mul_assoc, Nat.mul_comm g y]
section
variable {rs : List (List Nat)} {left : List Nat} {m : Nat}
theorem minI2 (p q : Int) (h : VH) : fMin2 [.int p, .int q] h = .ok (.int (if q < p then q else p)) h := rfl
end
end BD
namespace BD
open PySem L2 TL K13
theorem cm_l {i j : Int} (h : -1000000000000 < i) (h2 : i < 1000000000000) : cMul i j = true := by
  unfold cMul
  rw [Bool.or_eq_true, Bool.and_eq_true, Bool.and_eq_true]
  exact .inl ⟨decide_eq_true (by omega), decide_eq_true (by omega)⟩
theorem cm_r {i j : Int} (h : -1000000000000 < j) (h2 : j < 1000000000000) : cMul i j = true := by
  unfold cMul
  rw [Bool.or_eq_true, Bool.and_eq_true, Bool.and_eq_true]
  exact .inr ⟨decide_eq_true (by omega), decide_eq_true (by omega)⟩
def pur (a b : Int) : VO := .lst [.int a, .int b]
def IsP (o : VO) : Prop := ∃ a b, o = pur a b ∧ 0 ≤ b ∧ b < 2147483647
def Flat (h : VH) : Prop := ∀ o ∈ h, ∀ m, VO.lowR m o = true
structure Iv (n : Nat) (h : VH) : Prop where
  bg : ∃ o, h[n]? = some o ∧ IsP o
  fl : Flat h
theorem Iv.lt {n : Nat} {h : VH} (I : Iv n h) : n < h.length := let ⟨_, e, _⟩ := I.bg; (List.getElem?_eq_some_iff.mp e).1
theorem Flat.low {h : VH} (f : Flat h) (m : Nat) : h.all (VO.lowR m) = true := List.all_eq_true.mpr fun o ho => f o ho m
theorem Flat.set {h : VH} (f : Flat h) {n : Nat} {o : VO} (ho : ∀ m, VO.lowR m o = true) : Flat (h.set n o) := fun p hp m => by
  rcases List.mem_or_eq_of_mem_set hp with z | rfl
  · exact f p z m
  · exact ho m
theorem Flat.app {h : VH} (f : Flat h) {o : VO} (ho : ∀ m, VO.lowR m o = true) : Flat (h ++ [o]) := fun p hp m => by
  rcases List.mem_append.mp hp with z | z
  · exact f p z m
  · rw [List.mem_singleton.mp z]; exact ho m
theorem IsP.low {o : VO} (i : IsP o) (m : Nat) : VO.lowR m o = true := by
  obtain ⟨a, b, rfl, _⟩ := i
  rfl
theorem Iv.draw {n : Nat} {h : VH} (I : Iv n h) {o : VO} (i : IsP o) : Iv n (h.set n o) := ⟨⟨o, List.getElem?_set_self I.lt, i⟩, I.fl.set i.low⟩
theorem Iv.app {n : Nat} {h : VH} (I : Iv n h) {o : VO} (ho : ∀ m, VO.lowR m o = true) : Iv n (h ++ [o]) := by
  obtain ⟨p, e, i⟩ := I.bg
  exact ⟨⟨p, by rw [List.getElem?_append_left I.lt]; exact e, i⟩, I.fl.app ho⟩
theorem Iv.put {n q : Nat} {h : VH} (I : Iv n h) (ne : q ≠ n) {o : VO} (ho : ∀ m, VO.lowR m o = true) : Iv n (h.set q o) := by
  obtain ⟨p, e, i⟩ := I.bg
  exact ⟨⟨p, by rw [List.getElem?_set_ne ne]; exact e, i⟩, I.fl.set ho⟩
theorem draw_ok {n : Nat} {h : VH} {k : Int} (I : Iv n h) (hk : 0 < k) (hk2 : k < 1000000) : ∃ (r : Nat) (o : VO), m_law_draw [.ref n, .int k] h = .ok (.int (r : Nat)) (h.set n o) ∧ (r : Int) < k ∧ IsP o := by
  obtain ⟨o, e, a, b, rfl, hb, hb2⟩ := I.bg
  have hn := I.lt
  clear I
  unfold pur at e
  have hs : ∀ x : VO, (h.set n x)[n]? = some x := fun x => List.getElem?_set_self hn
  clear hn
  have key : ∃ (r : Int) (o : VO), m_law_draw [.ref n, .int k] h = .ok (.int r) (h.set n o) ∧ 0 ≤ r ∧ r < k ∧ IsP o := by
    by_cases ha : 0 < a
    · refine ⟨a % k, pur (a / k) b, ?_, Int.emod_nonneg _ (by omega), Int.emod_lt_of_pos _ hk, _, _, rfl, hb, hb2⟩
      have hq : Builtin.divisionGoesByPylong a k = false := PyProof.noPylong_small (by omega)
      simp [m_law_draw, s_law_draw, defM, startT, sSeq, sSet, sRet, sIf, sExpr, sNil, sAsg, sPar, sPar3, eVar, eK, eOp, eCall, mCall, eL, eH, aLim, aNil, aCons, aStar, eTup, eIf, bTest, TL.bAnd, TL.bOr, TL.bNot, bYes, eAnd, eOr, eNot, eNeg, eChain, eFld, getI, mgName, mgTup, mgsCons, mgsNil, mgSub, bSub, bMod, bFdv, bPow, bI, bI0, bAdd, bMul, bLt, bLe, bGt, bGe, bOrdG, bIs, bIsn, bIsG, TL.isNon, bIx, bSetL, fLen, fList, fTuple, fMax2, fMin2, fII, fAbs, fInt, fDivmod, TL.listOf, seqOf, tupOf, atI, ixN, List.getElem?_cons_zero, List.getElem?_cons_succ, List.set_cons_zero, List.set_cons_succ, List.map, List.length_cons, List.length_nil, List.replicate, List.append_nil, List.cons_append, List.nil_append, Option.bind_some, Option.bind, e, ha, hk, hq, hs, pur]
    · have hm : cMul b 52021 = true := cm_r (by omega) (by omega)
      refine ⟨(b * 52021 + 40503) % 2147483647 / 1024 % k, pur a ((b * 52021 + 40503) % 2147483647), ?_, Int.emod_nonneg _ (by omega), Int.emod_lt_of_pos _ hk, _, _, rfl, Int.emod_nonneg _ (by omega), Int.emod_lt_of_pos _ (by omega)⟩
      simp [m_law_draw, s_law_draw, defM, startT, sSeq, sSet, sRet, sIf, sExpr, sNil, sAsg, sPar, sPar3, eVar, eK, eOp, eCall, mCall, eL, eH, aLim, aNil, aCons, aStar, eTup, eIf, bTest, TL.bAnd, TL.bOr, TL.bNot, bYes, eAnd, eOr, eNot, eNeg, eChain, eFld, getI, mgName, mgTup, mgsCons, mgsNil, mgSub, bSub, bMod, bFdv, bPow, bI, bI0, bAdd, bMul, bLt, bLe, bGt, bGe, bOrdG, bIs, bIsn, bIsG, TL.isNon, bIx, bSetL, fLen, fList, fTuple, fMax2, fMin2, fII, fAbs, fInt, fDivmod, TL.listOf, seqOf, tupOf, atI, ixN, List.getElem?_cons_zero, List.getElem?_cons_succ, List.set_cons_zero, List.set_cons_succ, List.map, List.length_cons, List.length_nil, List.replicate, List.append_nil, List.cons_append, List.nil_append, Option.bind_some, Option.bind, e, ha, hk, hs, hm, pur]
  obtain ⟨r, o, e1, r0, r1, io⟩ := key
  refine ⟨r.toNat, o, ?_, by omega, io⟩
  rw [e1]
  refine congrArg (fun i => Res.ok (T.int i) _) ?_
  omega
def pu1 : MS := (sSet 2 (eIf (bTest (eOp bLt (eVar 1) (eCall fLen (aCons (eVar 0) aNil)))) (eOp TL.bIx (eVar 0) (eVar 1)) (eOp TL.bMul (eK (.int 5417)) (eOp TL.bAdd (eVar 1) (eK (.int 5))))))
def puI : MI := (iSeqC (eOp TL.bAdd (eSl (eVar 0) oNo (oSome (eK (.int 5)))) (eL (aLim (aCons (eVar 2) aNil)))))
def puB : MS := (sSet 3 (eOp TL.bMod (eCall fInt (aCons (eOp TL.bAdd (eOp TL.bAdd (eOp TL.bMul (eVar 3) (eK (.int 39373))) (eOp TL.bMod (eCall fInt (aCons (eVar 4) aNil)) (eK (.int 2147483647)))) (eK (.int 101))) aNil)) (eK (.int 2147483647))))
def puR : MS := (sRet (eH (aLim (aCons (eIf (bTest (eOp bGe (eCall fAbs (aCons (eVar 2) aNil)) (eOp TL.bPow (eK (.int 10)) (eK (.int 18))))) (eCall fAbs (aCons (eVar 2) aNil)) (eK (.int 0))) (aCons (eVar 3) aNil)))))
theorem purse_eq : s_law_purse = sSeq pu1 (sSeq (sSet 3 (eOp TL.bAdd (eK (.int 743)) (eVar 1))) (sSeq (sFor puI (mgName 4) puB) puR)) := rfl
theorem purse_ok {ns : List Int} {s : Nat} {h : VH} (hs : s < 100) (hf : Flat h) (hl : ns.length ≤ 63) : ∃ h', m_law_purse [.arg (ns.map T.int), .int (s : Nat)] h = .ok (.ref h.length) h' ∧ Iv h.length h' := by
  have s1 : ∃ c : Int, pu1 [some (.arg (ns.map T.int)), some (.int (s : Nat)), none, none, none] h = .nx [some (.arg (ns.map T.int)), some (.int (s : Nat)), some (.int c), none, none] h := by
    by_cases q : s < ns.length
    · have ix : atI (ns.map T.int) ((s : Nat) : Int) = some (.int ns[s]) := by rw [ix_nn (by omega) (by rw [List.length_map]; omega), Int.toNat_natCast, List.getElem?_map, List.getElem?_eq_getElem q]; rfl
      exact ⟨ns[s], by simp [pu1, defM, startT, sSeq, sSet, sRet, sIf, sExpr, sNil, sAsg, sPar, sPar3, eVar, eK, eOp, eCall, mCall, eL, eH, aLim, aNil, aCons, aStar, eTup, eIf, bTest, TL.bAnd, TL.bOr, TL.bNot, bYes, eAnd, eOr, eNot, eNeg, eChain, eFld, mgName, mgTup, mgsCons, mgsNil, mgSub, bSub, bMod, bFdv, bPow, bI, bI0, bAdd, bMul, bLt, bLe, bGt, bGe, bOrdG, bIs, bIsn, bIsG, TL.isNon, bIx, bSetL, fLen, fList, fTuple, fMax2, fMin2, fII, fAbs, fInt, fDivmod, TL.listOf, seqOf, tupOf, List.getElem?_cons_zero, List.getElem?_cons_succ, List.set_cons_zero, List.set_cons_succ, List.map, List.length_cons, List.length_nil, List.replicate, List.append_nil, List.cons_append, List.nil_append, Option.bind_some, Option.bind, q, ix]⟩
    · have m1 : cMul 5417 ((s : Nat) + 5 : Int) = true := cm_l (by omega) (by omega)
      exact ⟨_, by simp [pu1, defM, startT, sSeq, sSet, sRet, sIf, sExpr, sNil, sAsg, sPar, sPar3, eVar, eK, eOp, eCall, mCall, eL, eH, aLim, aNil, aCons, aStar, eTup, eIf, bTest, TL.bAnd, TL.bOr, TL.bNot, bYes, eAnd, eOr, eNot, eNeg, eChain, eFld, mgName, mgTup, mgsCons, mgsNil, mgSub, bSub, bMod, bFdv, bPow, bI, bI0, bAdd, bMul, bLt, bLe, bGt, bGe, bOrdG, bIs, bIsn, bIsG, TL.isNon, bIx, bSetL, fLen, fList, fTuple, fMax2, fMin2, fII, fAbs, fInt, fDivmod, TL.listOf, seqOf, tupOf, List.getElem?_cons_zero, List.getElem?_cons_succ, List.set_cons_zero, List.set_cons_succ, List.map, List.length_cons, List.length_nil, List.replicate, List.append_nil, List.cons_append, List.nil_append, Option.bind_some, Option.bind, q, m1]; rfl⟩
  obtain ⟨c, s1⟩ := s1
  have s1b : sSet 3 (eOp TL.bAdd (eK (.int 743)) (eVar 1)) [some (.arg (ns.map T.int)), some (.int (s : Nat)), some (.int c), none, none] h = .nx [some (.arg (ns.map T.int)), some (.int (s : Nat)), some (.int c), some (.int (743 + (s : Nat))), none] h := rfl
  obtain ⟨ts, s2, s3⟩ : ∃ ts, puI [some (.arg (ns.map T.int)), some (.int (s : Nat)), some (.int c), some (.int (743 + (s : Nat))), none] h = .ok (fun h => seqS h (.lst ts)) h ∧ ∀ t ∈ ts, ∃ i, t = T.int i := by
    refine ⟨cutT (ns.map T.int) none (some 5) ++ [.int c], ?_, fun t ht => ?_⟩
    · have ll : (cutT (ns.map T.int) none (some 5)).length ≤ 63 := by
        unfold cutT
        simp only [List.length_drop, List.length_take, List.length_map]
        omega
      have ll2 : (cutT (ns.map T.int) none (some 5)).length + 1 ≤ 16777216 := by omega
      simp [puI, defM, startT, sSeq, sSet, sRet, sIf, sExpr, sNil, sAsg, sPar, sPar3, eVar, eK, eOp, eCall, mCall, eL, eH, aLim, aNil, aCons, aStar, eTup, eIf, bTest, TL.bAnd, TL.bOr, TL.bNot, bYes, eAnd, eOr, eNot, eNeg, eChain, eFld, mgName, mgTup, mgsCons, mgsNil, mgSub, bSub, bMod, bFdv, bPow, bI, bI0, bAdd, bMul, bLt, bLe, bGt, bGe, bOrdG, bIs, bIsn, bIsG, TL.isNon, bIx, bSetL, fLen, fList, fTuple, fMax2, fMin2, fII, fAbs, fInt, fDivmod, TL.listOf, seqOf, tupOf, List.getElem?_cons_zero, List.getElem?_cons_succ, List.set_cons_zero, List.set_cons_succ, List.map, List.length_cons, List.length_nil, List.replicate, List.append_nil, List.cons_append, List.nil_append, Option.bind_some, Option.bind, iSeqC, walkable, seqS, eSl, oNo, oSome, bSl, ll2]
    · rcases List.mem_append.mp ht with q | q
      · unfold cutT at q
        obtain ⟨i, _, rfl⟩ := List.mem_map.mp (List.mem_of_mem_drop (List.mem_of_mem_take q))
        exact ⟨i, rfl⟩
      · exact ⟨c, List.mem_singleton.mp q⟩
  obtain ⟨τ', h', q1, d, a, rfl, rfl, d0, d1⟩ := sFor_inv (g := mgName 4) (body := puB) (ts := ts) (fun _ τ h' => ∃ (d : Int) (a : Option T), τ = [some (.arg (ns.map T.int)), some (.int (s : Nat)), some (.int c), some (.int d), a] ∧ h' = h ∧ 0 ≤ d ∧ d < 2147483647) s2 ⟨743 + (s : Nat), none, rfl, rfl, by omega, by omega⟩ (fun _ _ _ _ => rfl) (fun i hi τ h' I => by
    obtain ⟨d, a, rfl, rfl, d0, d1⟩ := I
    obtain ⟨p, hp⟩ := s3 _ (List.getElem_mem hi)
    have m1 : cMul d 39373 = true := cm_r (by omega) (by omega)
    refine ⟨_, _, _, _, rfl, .inl ?_, (d * 39373 + p % 2147483647 + 101) % 2147483647, some (.int p), rfl, rfl, Int.emod_nonneg _ (by omega), Int.emod_lt_of_pos _ (by omega)⟩
    rw [hp]
    simp [puB, defM, startT, sSeq, sSet, sRet, sIf, sExpr, sNil, sAsg, sPar, sPar3, eVar, eK, eOp, eCall, mCall, eL, eH, aLim, aNil, aCons, aStar, eTup, eIf, bTest, TL.bAnd, TL.bOr, TL.bNot, bYes, eAnd, eOr, eNot, eNeg, eChain, eFld, mgName, mgTup, mgsCons, mgsNil, mgSub, bSub, bMod, bFdv, bPow, bI, bI0, bAdd, bMul, bLt, bLe, bGt, bGe, bOrdG, bIs, bIsn, bIsG, TL.isNon, bIx, bSetL, fLen, fList, fTuple, fMax2, fMin2, fII, fAbs, fInt, fDivmod, TL.listOf, seqOf, tupOf, List.getElem?_cons_zero, List.getElem?_cons_succ, List.set_cons_zero, List.set_cons_succ, List.map, List.length_cons, List.length_nil, List.replicate, List.append_nil, List.cons_append, List.nil_append, Option.bind_some, Option.bind, mgName, m1])
  have s4 : ∃ b, puR [some (.arg (ns.map T.int)), some (.int (s : Nat)), some (.int c), some (.int d), a] h' = .rt (.ref h'.length) (h' ++ [pur b d]) := by
    by_cases q : 1000000000000000000 ≤ (if c < 0 then -c else c)
    · exact ⟨(if c < 0 then -c else c), by simp [puR, defM, startT, sSeq, sSet, sRet, sIf, sExpr, sNil, sAsg, sPar, sPar3, eVar, eK, eOp, eCall, mCall, eL, eH, aLim, aNil, aCons, aStar, eTup, eIf, bTest, TL.bAnd, TL.bOr, TL.bNot, bYes, eAnd, eOr, eNot, eNeg, eChain, eFld, mgName, mgTup, mgsCons, mgsNil, mgSub, bSub, bMod, bFdv, bPow, bI, bI0, bAdd, bMul, bLt, bLe, bGt, bGe, bOrdG, bIs, bIsn, bIsG, TL.isNon, bIx, bSetL, fLen, fList, fTuple, fMax2, fMin2, fII, fAbs, fInt, fDivmod, TL.listOf, seqOf, tupOf, List.getElem?_cons_zero, List.getElem?_cons_succ, List.set_cons_zero, List.set_cons_succ, List.map, List.length_cons, List.length_nil, List.replicate, List.append_nil, List.cons_append, List.nil_append, Option.bind_some, Option.bind, q, pur]⟩
    · exact ⟨0, by simp [puR, defM, startT, sSeq, sSet, sRet, sIf, sExpr, sNil, sAsg, sPar, sPar3, eVar, eK, eOp, eCall, mCall, eL, eH, aLim, aNil, aCons, aStar, eTup, eIf, bTest, TL.bAnd, TL.bOr, TL.bNot, bYes, eAnd, eOr, eNot, eNeg, eChain, eFld, mgName, mgTup, mgsCons, mgsNil, mgSub, bSub, bMod, bFdv, bPow, bI, bI0, bAdd, bMul, bLt, bLe, bGt, bGe, bOrdG, bIs, bIsn, bIsG, TL.isNon, bIx, bSetL, fLen, fList, fTuple, fMax2, fMin2, fII, fAbs, fInt, fDivmod, TL.listOf, seqOf, tupOf, List.getElem?_cons_zero, List.getElem?_cons_succ, List.set_cons_zero, List.set_cons_succ, List.map, List.length_cons, List.length_nil, List.replicate, List.append_nil, List.cons_append, List.nil_append, Option.bind_some, Option.bind, q, pur]⟩
  obtain ⟨b, s4⟩ := s4
  have ib : IsP (pur b d) := ⟨_, _, rfl, d0, d1⟩
  refine ⟨h' ++ [pur b d], ?_, ⟨⟨_, by rw [List.getElem?_append_right (Nat.le_refl _), Nat.sub_self]; rfl, ib⟩, hf.app ib.low⟩⟩
  show defM 5 2 s_law_purse _ _ = _
  rw [purse_eq]
  exact defM_rt rfl ((seq_nx s1).trans ((seq_nx s1b).trans ((seq_nx q1).trans s4)))
theorem lcL_inv {rd : VH → Option (List T)} {g : MG} {e : ME} {τ : TS_} {ts : List T} (hrd : ∀ h, rd h = some ts) (I : Nat → List T → VH → Prop) (hb : ∀ i (hi : i < ts.length) acc h, I i acc h → ∃ τ1 y h', g ts[i] τ h = .ok τ1 h ∧ e τ1 h = .ok y h' ∧ I (i + 1) (acc ++ [y]) h') :
    ∀ (k i : Nat) (acc : List T) (h : VH), i + k = ts.length → I i acc h → ∃ acc' h', lcL rd g bYes e τ ts.length k i acc h = .ok acc' h' ∧ I ts.length acc' h' := by
  intro k
  induction k with
  | zero =>
    intro i acc h hi Ih
    obtain rfl : i = ts.length := by omega
    exact ⟨acc, h, by simp [lcL, hrd], Ih⟩
  | succ k ih =>
    intro i acc h hi Ih
    have hlt : i < ts.length := by omega
    have e1 : ts[i]? = some ts[i] := List.getElem?_eq_getElem hlt
    obtain ⟨τ1, y, h2, a1, a2, I2⟩ := hb i hlt acc h Ih
    obtain ⟨acc', h3, z, I3⟩ := ih (i + 1) (acc ++ [y]) h2 (by omega) I2
    refine ⟨acc', h3, ?_, I3⟩
    have b : bYes τ1 h = .ok true h := rfl
    simp only [lcL, hrd, e1, a1, b, a2, if_true]
    exact z
theorem mLc_inv {mi : MI} {ws : List Nat} {g : MG} {e : ME} {τ : TS_} {h h1 : VH} {rd : VH → Option (List T)} {ts : List T} (hm : mi τ h = .ok rd h1) (hrd : ∀ h, rd h = some ts) (hl : ts.length ≤ 16777216) (I : Nat → List T → VH → Prop) (h0 : I 0 [] h1)
    (hb : ∀ i (hi : i < ts.length) acc h, I i acc h → ∃ τ1 y h', g ts[i] (wipeT τ ws) h = .ok τ1 h ∧ e τ1 h = .ok y h' ∧ I (i + 1) (acc ++ [y]) h') : ∃ acc h', mLc mi ws g bYes e τ h = .ok acc h' ∧ I ts.length acc h' := by
  obtain ⟨acc, h', z, J⟩ := lcL_inv (g := g) (e := e) (τ := wipeT τ ws) hrd I hb ts.length 0 [] h1 (by omega) h0
  exact ⟨acc, h', by simp [mLc, hm, hrd, hl, z], J⟩
theorem rngk {g : MA} {τ : TS_} {h h1 : VH} {K : Nat} (e : g τ h = .ok [.int (K : Nat)] h1) (hK : K ≤ 100000) : iRange1 g τ h = .ok (fun _ => some (rangeT 0 K)) h1 := by
  unfold iRange1
  rw [e]
  simp only
  rw [if_pos ⟨by omega, by omega⟩, Int.toNat_natCast]
theorem max2_int (p q : Int) (h : VH) : fMax2 [.int p, .int q] h = .ok (.int (if q > p then q else p)) h := rfl
theorem allT {α : Type} (l : List α) (h : VH) : fAll [.lst (l.map fun _ => T.bl true)] h = .ok (.bl true) h := by
  have := hAll l (fun _ => true) h
  rw [this, List.all_eq_true.mpr fun _ _ => rfl]
end BD
namespace CE
open PySem L2 TL
def two (c : Nat) (x : T) : T := .tup [.eob c [x], .eob c [x]]
def fst14 (x : T) : List T := (List.range 14).map fun c => two c x
def snd6 (x : T) : List T := [two 14 x, two 15 x, .tup [.eob 16 [], .eob 16 []], .tup [.eob 17 [x, .int 1], .eob 17 [x, .int 1]], two 18 x, .tup [.eob 19 [], .eob 19 []]]
abbrev w1 : MS := (sSet 1 (eCall K01.m_law_thing (aCons (eVar 0) aNil)))
abbrev w2 : MS := (sPar 2 3 (aCons (eCall K01.m_law_firsts (aCons (eVar 1) aNil)) (aCons (eCall K01.m_law_seconds (aCons (eVar 1) aNil)) aNil)))
abbrev w3 : MS := (sSet 4 (eL (mLc (iSeqC (eSl (eVar 2) oNo (oSome (eK (.int 12))))) [5] (mgName 5) bYes (eL (aLim (aCons (eAtE "given" (eOp TL.bIx (eVar 5) (eK (.int 0)))) (aCons (eAtE "given" (eOp TL.bIx (eVar 5) (eK (.int 1)))) aNil)))))))
abbrev w4 : MS := (sSet 4 (eOp TL.bAdd (eVar 4) (eL (mLc (iSeqC (eOp TL.bAdd (eSl (eVar 2) (oSome (eK (.int 12))) oNo) (eSl (eVar 3) (oSome (eK (.int 3))) (oSome (eK (.int 5)))))) [5] (mgName 5) bYes (eL (aLim (aCons (eAtE "index" (eOp TL.bIx (eVar 5) (eK (.int 0)))) (aCons (eAtE "index" (eOp TL.bIx (eVar 5) (eK (.int 1)))) aNil))))))))
abbrev w5 : MS := (sSet 4 (eOp TL.bAdd (eVar 4) (eL (aLim (aCons (eL (mLc (iSeqC (eOp TL.bIx (eVar 3) (eK (.int 0)))) [6] (mgName 6) bYes (eAtE "place" (eVar 6)))) (aCons (eL (mLc (iSeqC (eOp TL.bIx (eVar 3) (eK (.int 1)))) [6] (mgName 6) bYes (eAtE "number" (eVar 6)))) aNil))))))
abbrev w6 : MS := (sIf (TL.bOr (bTest (eOp TL.bNe (eCall fReprK (aCons (eVar 4) aNil)) (eCall fReprK (aCons (eL (mMul (eL (aLim (aCons (eL (aLim (aCons (eVar 1) (aCons (eVar 1) aNil)))) aNil))) (eK (.int 18)))) aNil)))) (bTest (eOp TL.bNe (eL (mLc (iSeqC (eOp TL.bIx (eVar 3) (eK (.int 3)))) [6] (mgName 6) bYes (eAtE "told" (eVar 6)))) (eL (aLim (aCons (eK (.int 1)) (aCons (eK (.int 1)) aNil))))))) (sRet (eK (.bl false))) sNil)
abbrev w7 : MS := (sFor (iEnumM (aCons (eOp TL.bAdd (eVar 2) (eVar 3)) aNil)) (mgTup 2 (mgsCons (mgName 7) (mgsCons (mgName 5) mgsNil))) (sFor (iSeqC (eVar 5)) (mgName 6) (sSeq (sPar 8 9 (aCons (eCall K01.m_law_flags (aCons (eVar 6) aNil)) (aCons (eOp TL.bLt (eVar 7) (eK (.int 14))) aNil)))
  (sSeq (sIf (TL.bOr (bTest (eOp TL.bNe (eMt "list" mCountB (eVar 8) (aCons (eK (.bl true)) aNil)) (eK (.int 1)))) (TL.bNot (bTest (eOp TL.bIx (eVar 8) (eVar 7))))) (sRet (eK (.bl false))) sNil)
  (sSeq (sIf (bTest (eOp TL.bNe (eL (aLim (aCons (eIsK (fun c => some (decide (c < 14))) (eVar 6)) (aCons (eIsK (fun c => some (!decide (c < 14))) (eVar 6)) aNil)))) (eL (aLim (aCons (eVar 9) (aCons (eNot (eVar 9)) aNil)))))) (sRet (eK (.bl false))) sNil)
  (sIf (bTest (eOp TL.bNe (eL (aLim (aCons (eIsK (fun c => some (decide (c < 14))) (eVar 6)) (aCons (eIsK (fun c => some (!decide (c < 14))) (eVar 6)) aNil)))) (eL (aLim (aCons (eVar 9) (aCons (eNot (eVar 9)) aNil)))))) (sRet (eK (.bl false))) sNil))))))
abbrev w8 : MS := (sRet (eK (.bl true)))
abbrev wA : MS := (sSeq w1 (sSeq w2 (sSeq w3 (sSeq w4 (sSeq w5 (sSeq w6 (sSeq w7 w8)))))))
theorem w_eq : K01.s_law_right = wA := rfl
abbrev F1 (n : Nat) (x : T) : TS_ := [some (.ref n), some x, none, none, none, none, none, none, none, none]
abbrev F2 (n : Nat) (x : T) : TS_ := [some (.ref n), some x, some (.lst (fst14 x)), some (.lst (snd6 x)), none, none, none, none, none, none]
def LL (x : T) : T := .lst (List.replicate 18 (.lst [x, x]))
abbrev F5 (n : Nat) (x : T) : TS_ := [some (.ref n), some x, some (.lst (fst14 x)), some (.lst (snd6 x)), some (LL x), none, none, none, none, none]
theorem st2 (n : Nat) (x : T) (h : VH) : w2 (F1 n x) h = .nx (F2 n x) h := by kernel_rfl
theorem st5 (n : Nat) (x : T) (h : VH) : sSeq w3 (sSeq w4 w5) (F2 n x) h = .nx (F5 n x) h := by kernel_rfl
theorem st7 (n : Nat) (x : T) (h : VH) : sSeq w7 w8 (F5 n x) h = .rt (.bl true) h := by kernel_rfl
end CE
namespace CE
open PySem L2 TL
def okD (d : PyData) : Bool := d.showable && decide (d.depth ≤ 8) && decide (d.shown.length ≤ 100)
theorem shown_rep (d : PyData) : ∀ n, PyData.shownAll (List.replicate n d) = List.replicate n d.shown
  | 0 => rfl
  | n + 1 => by rw [List.replicate_succ, List.replicate_succ, PyData.shownAll, shown_rep d n]
theorem show_rep {d : PyData} (e : d.showable = true) : ∀ n, PyData.showableAll (List.replicate n d) = true
  | 0 => rfl
  | n + 1 => by rw [List.replicate_succ, PyData.showableAll, show_rep e n, e]; rfl
theorem depth_rep (d : PyData) : ∀ n, PyData.depthAll (List.replicate n d) ≤ d.depth
  | 0 => Nat.zero_le _
  | n + 1 => by rw [List.replicate_succ, PyData.depthAll]; exact Nat.max_le.mpr ⟨Nat.le_refl _, depth_rep d n⟩
theorem lens_rep (t : Str) : ∀ n, lens (List.replicate n t) = n * (t.length + 2)
  | 0 => by simp [lens]
  | n + 1 => by
    have e := lens_rep t n
    unfold lens at e ⊢
    rw [List.replicate_succ, List.map_cons, List.sum_cons, e, Nat.succ_mul]
    omega
theorem list_ok {d : PyData} {n k l : Nat} (sh : d.showable = true) (dp : d.depth ≤ k) (sz : d.shown.length ≤ l) : (PyData.list (List.replicate n d)).showable = true ∧ (PyData.list (List.replicate n d)).depth ≤ k + 1 ∧ (PyData.list (List.replicate n d)).shown.length ≤ n * (l + 2) + 2 := by
  refine ⟨by rw [PyData.showable]; exact show_rep sh n, ?_, ?_⟩
  · rw [PyData.depth]
    have := depth_rep d n
    omega
  · rw [PyData.shown, shown_rep]
    have h := listText_le (List.replicate n d.shown)
    rw [lens_rep] at h
    exact Nat.le_trans h (Nat.add_le_add_right (Nat.mul_le_mul_left n (by omega)) 2)
theorem okL {d : PyData} (o : okD d = true) : ((PyData.list (List.replicate 18 (.list [d, d]))).showable && decide ((PyData.list (List.replicate 18 (.list [d, d]))).depth ≤ 12) && decide ((PyData.list (List.replicate 18 (.list [d, d]))).shown.length ≤ 1000000)) = true := by
  unfold okD at o
  simp only [Bool.and_eq_true, decide_eq_true_eq] at o
  obtain ⟨a1, a2, a3⟩ := list_ok (n := 2) o.1.1 o.1.2 o.2
  obtain ⟨b1, b2, b3⟩ := list_ok (n := 18) a1 a2 a3
  simp only [Bool.and_eq_true, decide_eq_true_eq]
  exact ⟨⟨b1, Nat.le_trans b2 (by omega)⟩, Nat.le_trans b3 (by omega)⟩
def Thing (h : VH) (x : T) : Prop := ∃ d, datD h 4 x = some d ∧ okD d = true
theorem allD_rep {f : T → Option PyData} {t : T} {d : PyData} (e : f t = some d) : ∀ n, allD f (List.replicate n t) = some (List.replicate n d)
  | 0 => rfl
  | n + 1 => by
    rw [List.replicate_succ, List.replicate_succ, allD, e, allD_rep e n]
theorem repr_ok {h : VH} {x : T} (g : Thing h x) : ∃ z, fReprK [LL x] h = .ok (.str z) h := by
  obtain ⟨d, e, o⟩ := g
  have e5 : datD h 5 (.lst [x, x]) = some (.list [d, d]) := by
    rw [datD, allD, allD, allD, e]
    rfl
  have e6 : datD h 6 (LL x) = some (.list (List.replicate 18 (.list [d, d]))) := by
    unfold LL
    rw [datD, allD_rep e5]
    rfl
  refine ⟨(PyData.list (List.replicate 18 (.list [d, d]))).shown, ?_⟩
  have k : ∀ d', datD h 6 (LL x) = some d' → fReprK [LL x] h = if (d'.showable && decide (d'.depth ≤ 12) && decide (d'.shown.length ≤ 1000000)) = true then .ok (.str d'.shown) h else .bad := fun d' q => by
    unfold fReprK
    simp only [q]
  exact (k _ e6).trans (if_pos (okL o))
theorem st6 {n : Nat} {h : VH} {x : T} (g : Thing h x) : w6 (F5 n x) h = .nx (F5 n x) h := by
  obtain ⟨z, e⟩ := repr_ok g
  have a1 : eCall fReprK (aCons (eVar 4) aNil) (F5 n x) h = .ok (.str z) h := EV.call (EV.cons (EV.var rfl) EV.nil) e
  have a2 : aCons (eL (mMul (eL (aLim (aCons (eL (aLim (aCons (eVar 1) (aCons (eVar 1) aNil)))) aNil))) (eK (.int 18)))) aNil (F5 n x) h = .ok [LL x] h := by kernel_rfl
  have a3 : TL.bNe (.str z) (.str z) h = .ok (.bl false) h := by
    have q : TL.bNe (.str z) (.str z) h = .ok (.bl (!(z == z))) h := rfl
    rw [q, beq_self_eq_true]; rfl
  have a4 : bTest (eOp TL.bNe (eL (mLc (iSeqC (eOp TL.bIx (eVar 3) (eK (.int 3)))) [6] (mgName 6) bYes (eAtE "told" (eVar 6)))) (eL (aLim (aCons (eK (.int 1)) (aCons (eK (.int 1)) aNil))))) (F5 n x) h = .ok false h := by kernel_rfl
  have a5 : TL.bOr (bTest (eOp TL.bNe (eCall fReprK (aCons (eVar 4) aNil)) (eCall fReprK (aCons (eL (mMul (eL (aLim (aCons (eL (aLim (aCons (eVar 1) (aCons (eVar 1) aNil)))) aNil))) (eK (.int 18)))) aNil)))) (bTest (eOp TL.bNe (eL (mLc (iSeqC (eOp TL.bIx (eVar 3) (eK (.int 3)))) [6] (mgName 6) bYes (eAtE "told" (eVar 6)))) (eL (aLim (aCons (eK (.int 1)) (aCons (eK (.int 1)) aNil)))))) (F5 n x) h = .ok false h :=
    EV.bor (EV.test (EV.op a1 (EV.call a2 e) a3)) a4
  exact EV.ite a5 rfl
def D1 : VO := .dct [(.str "a", .tup [])]
def things (k : Nat) : List T := [.non, .bl true, .int 0, .int (-1000000000000000000000000000000), .str "", .str "a", .str "2: 0 1", .tup [], .tup [.str "a", .tup [.str "b", .int 1]], .lst [], .lst [.lst [.str "a"]], .ref k, .ref (k + 1)]
theorem len1 (h : VH) (o : VO) : (h ++ [o]).length = h.length + 1 := by simp
theorem thing_ok {n : Nat} {h : VH} (I : BD.Iv n h) : ∃ x h1, K01.m_law_thing [.ref n] h = .ok x h1 ∧ BD.Iv n h1 ∧ Thing h1 x := by
  have I2 : BD.Iv n ((h ++ [.dct []]) ++ [D1]) := (I.app fun m => rfl).app fun m => rfl
  obtain ⟨r, o, e, hr, ip⟩ := BD.draw_ok (k := 13) I2 (by omega) (by omega)
  have S1 : sSet 1 (eL (aLim (aCons (eK .non) (aCons (eK (.bl true)) (aCons (eK (.int 0)) (aCons (eNeg (eOp TL.bPow (eK (.int 10)) (eK (.int 30)))) (aCons (eK (.str "")) (aCons (eK (.str "a")) (aCons (eK (.str "2: 0 1")) (aCons (eTup aNil) (aCons (eTup (aCons (eK (.str "a")) (aCons (eTup (aCons (eK (.str "b")) (aCons (eK (.int 1)) aNil))) aNil))) (aCons (eL (aLim aNil)) (aCons (eL (aLim (aCons (eL (aLim (aCons (eK (.str "a")) aNil))) aNil))) (aCons eDNew (aCons (eDisp (pCons (eK (.str "a")) (eTup aNil) pNil)) aNil))))))))))))))) [some (.ref n), none] h = .nx [some (.ref n), some (.lst (things h.length))] ((h ++ [.dct []]) ++ [D1]) := by
    unfold things
    rw [← len1 h (.dct [])]
    kernel_rfl
  have lt : r < (things h.length).length := by show r < 13; omega
  have ix : TL.bIx (.lst (things h.length)) (.int (r : Nat)) (List.set ((h ++ [VO.dct []]) ++ [D1]) n o) = .ok ((things h.length)[r]'lt) (List.set ((h ++ [VO.dct []]) ++ [D1]) n o) := by
    have q : atI (things h.length) ((r : Nat) : Int) = some ((things h.length)[r]'lt) := by
      rw [ix_nn (by omega) (by omega), Int.toNat_natCast, List.getElem?_eq_getElem lt]
    have li : TL.listOf (List.set ((h ++ [VO.dct []]) ++ [D1]) n o) (.lst (things h.length)) = some (things h.length) := rfl
    simp only [TL.bIx, li, q]
  refine ⟨_, _, defM_rt (f := K01.s_law_thing) rfl (EV.seq S1 (EV.ret (EV.op (EV.var rfl) (EV.call (EV.cons (EV.var rfl) (EV.cons EV.const EV.nil)) e) ix))), I2.draw ip, ?_⟩
  have nl := I.lt
  have g0 : (List.set ((h ++ [VO.dct []]) ++ [D1]) n o)[h.length]? = some (.dct []) := by
    rw [List.getElem?_set_ne (by omega), List.getElem?_append_left (by simp), List.getElem?_append_right (Nat.le_refl _)]
    simp
  have g1 : (List.set ((h ++ [VO.dct []]) ++ [D1]) n o)[h.length + 1]? = some D1 := by
    rw [List.getElem?_set_ne (by omega), List.getElem?_append_right (by simp)]
    simp
  have all : ∀ x ∈ things h.length, Thing (List.set ((h ++ [VO.dct []]) ++ [D1]) n o) x := by
    intro x hx
    generalize (List.set ((h ++ [VO.dct []]) ++ [D1]) n o) = hh at g0 g1
    unfold things at hx
    simp only [List.mem_cons, List.not_mem_nil, or_false] at hx
    rcases hx with rfl | rfl | rfl | rfl | rfl | rfl | rfl | rfl | rfl | rfl | rfl | rfl | rfl
    · exact ⟨.none, by kernel_rfl, by decide +kernel⟩
    · exact ⟨.bool true, by kernel_rfl, by decide +kernel⟩
    · exact ⟨.int 0, by kernel_rfl, by decide +kernel⟩
    · exact ⟨.int (-1000000000000000000000000000000), by kernel_rfl, by decide +kernel⟩
    · exact ⟨.str "", by kernel_rfl, by decide +kernel⟩
    · exact ⟨.str "a", by kernel_rfl, by decide +kernel⟩
    · exact ⟨.str "2: 0 1", by kernel_rfl, by decide +kernel⟩
    · exact ⟨.tuple [], by kernel_rfl, by decide +kernel⟩
    · exact ⟨.tuple [.str "a", .tuple [.str "b", .int 1]], by kernel_rfl, by decide +kernel⟩
    · exact ⟨.list [], by kernel_rfl, by decide +kernel⟩
    · exact ⟨.list [.list [.str "a"]], by kernel_rfl, by decide +kernel⟩
    · exact ⟨.dict [], by rw [datD, g0]; rfl, by decide +kernel⟩
    · exact ⟨.dict [(.str "a", .tuple [])], by rw [datD, g1]; rfl, by decide +kernel⟩
  exact all _ (List.getElem_mem lt)
theorem right_ok {n : Nat} {h : VH} (I : BD.Iv n h) : ∃ h', K01.m_law_right [.ref n] h = .ok (.bl true) h' ∧ BD.Iv n h' := by
  obtain ⟨x, h1, e, I1, g⟩ := thing_ok I
  have S1 : w1 [some (.ref n), none, none, none, none, none, none, none, none, none] h = .nx (F1 n x) h1 := EV.set (EV.call (EV.cons (EV.var rfl) EV.nil) e) rfl
  have S5 := st5 n x h1
  have S : wA [some (.ref n), none, none, none, none, none, none, none, none, none] h = .rt (.bl true) h1 := by
    refine (seq_nx S1).trans ((seq_nx (st2 n x h1)).trans ?_)
    have e3 : ∀ (a b c d : MS) (τ : TS_) (h : VH), sSeq a (sSeq b (sSeq c d)) τ h = sSeq (sSeq a (sSeq b c)) d τ h := fun a b c d τ h => by
      unfold sSeq
      cases a τ h with
      | nx τ1 h1 => simp only; cases b τ1 h1 <;> rfl
      | _ => rfl
    rw [e3]
    exact (seq_nx S5).trans ((seq_nx (st6 g)).trans (st7 n x h1))
  exact ⟨h1, defM_rt (f := K01.s_law_right) rfl (w_eq ▸ S), I1⟩
theorem law_ok (ns : List Int) (hl : ns.length ≤ 63) : ∃ h', K01.m_law [.arg (ns.map T.int)] [] = .ok (.bl true) h' := by
  obtain ⟨t0, et⟩ : ∃ t0, t0 = T.arg (ns.map T.int) := ⟨_, rfl⟩
  obtain ⟨K, hK, eK'⟩ : ∃ K : Nat, K ≤ 50 ∧ (if (if (4 : Int) < ((ns.length : Nat) : Int) then (4 : Int) else ((ns.length : Nat) : Int)) > 2 then (if (4 : Int) < ((ns.length : Nat) : Int) then (4 : Int) else ((ns.length : Nat) : Int)) else (2 : Int)) = (K : Nat) := by
    by_cases q : (4 : Int) < (ns.length : Nat)
    · exact ⟨4, by omega, by rw [if_pos q]; rfl⟩
    · rw [if_neg q]
      by_cases p : ((ns.length : Nat) : Int) > 2
      · exact ⟨ns.length, by omega, by rw [if_pos p]⟩
      · exact ⟨2, by omega, by rw [if_neg p]; rfl⟩
  obtain ⟨τ, hτ⟩ : ∃ τ : TS_, τ = [some (.arg (ns.map T.int)), some (.lst [.int 30, .int 30, .int 10, .int 12, .int 16, .int 12]), none] := ⟨_, rfl⟩
  have e1 : aCons (eCall fMax2 (aCons (eK (.int 2)) (aCons (eCall fMin2 (aCons (eCall fLen (aCons (eVar 0) aNil)) (aCons (eK (.int 4)) aNil))) aNil))) aNil τ [] = .ok [.int (K : Nat)] [] := by
    have l1 : eCall fLen (aCons (eVar 0) aNil) τ [] = .ok (.int (ns.length : Nat)) [] := by
      refine (call_ok (ts := [.arg (ns.map T.int)]) (by rw [hτ]; rfl)).trans ?_
      simp [fLen, seqOf]
    have l2 := (call_ok (b := fMin2) (cons_ok l1 (rfl : aCons (eK (.int 4)) aNil τ [] = .ok [.int 4] []))).trans (BD.minI2 _ _ _)
    have l3 := (call_ok (b := fMax2) (cons_ok (rfl : eK (.int 2) τ [] = .ok (.int 2) []) (cons_ok l2 (rfl : aNil τ [] = .ok [] [])))).trans (BD.max2_int _ _ _)
    rw [eK'] at l3
    exact cons_ok l3 rfl
  obtain ⟨acc, h', z, ea, fl⟩ := BD.mLc_inv (mi := iRange1 (aCons (eCall fMax2 (aCons (eK (.int 2)) (aCons (eCall fMin2 (aCons (eCall fLen (aCons (eVar 0) aNil)) (aCons (eK (.int 4)) aNil))) aNil))) aNil)) (ws := [2]) (g := mgName 2) (e := eCall K01.m_law_right (aCons (eCall K13.m_law_purse (aCons (eVar 0) (aCons (eVar 2) aNil))) aNil)) (τ := τ) (h := []) (h1 := []) (rd := fun _ => some (rangeT 0 K)) (ts := rangeT 0 K) (BD.rngk e1 (by omega)) (fun _ => rfl) (by rw [range_len]; omega)
    (fun i acc h => acc = (List.range i).map (fun _ => T.bl true) ∧ BD.Flat h) ⟨rfl, fun o ho => by cases ho⟩ (fun i hi acc h J => by
      obtain ⟨ea, f⟩ := J
      obtain ⟨hi2, ei⟩ := range_at hi
      rw [ei, Int.zero_add]
      obtain ⟨h1, b1, I1⟩ := BD.purse_ok (s := i) (by omega) f hl
      obtain ⟨h2, b2, I2⟩ := right_ok I1
      refine ⟨[some (.arg (ns.map T.int)), some (.lst [.int 30, .int 30, .int 10, .int 12, .int 16, .int 12]), some (.int (i : Nat))], .bl true, h2, by rw [hτ]; rfl, (call_ok (cons_ok ((call_ok (ts := [.arg (ns.map T.int), .int (i : Nat)]) rfl).trans b1) rfl)).trans b2, ?_, I2.fl⟩
      rw [ea, List.range_succ, List.map_append]
      rfl)
  rw [ea] at z
  have S1 : sSet 1 (eL (aLim (aCons (eK (.int 30)) (aCons (eK (.int 30)) (aCons (eK (.int 10)) (aCons (eK (.int 12)) (aCons (eK (.int 16)) (aCons (eK (.int 12)) aNil)))))))) (startT 3 [.arg (ns.map T.int)]) [] = .nx τ [] := by
    rw [hτ, ← et]
    kernel_rfl
  have S2 : sIf (bTest (eOp TL.bNe (eVar 1) (eL (aLim (aCons (eK (.int 30)) (aCons (eK (.int 30)) (aCons (eK (.int 10)) (aCons (eK (.int 12)) (aCons (eK (.int 16)) (aCons (eK (.int 12)) aNil)))))))))) (sRet (eK (.bl false))) sNil τ [] = .nx τ [] := by
    rw [hτ, ← et]
    kernel_rfl
  exact ⟨h', defM_rt (f := K01.s_law) rfl ((seq_nx S1).trans ((seq_nx S2).trans (ret_ok ((call_ok (cons_ok (eL_ok z) rfl)).trans (BD.allT (List.range _) h')))))⟩
end CE
theorem K01.pure_law (ns : List Int) (hl : ns.length ≤ 63) : ∃ h', K01.m_law [.arg (ns.map TL.T.int)] [] = .ok (.bl true) h' := CE.law_ok ns hl
namespace K01
open K33
open K21
open K13
open PySem PySem.Spec L2 TL
structure Gs (w : World) (K : PySem.W.Frag) (mg : Str → Option Value) : Prop where
  b_ArithmeticError : mg "ArithmeticError" = none
  b_ValueError : mg "ValueError" = none
  b_abs : mg "abs" = none
  b_all : mg "all" = none
  b_divmod : mg "divmod" = none
  b_enumerate : mg "enumerate" = none
  b_int : mg "int" = none
  b_isinstance : mg "isinstance" = none
  b_len : mg "len" = none
  b_max : mg "max" = none
  b_min : mg "min" = none
  b_range : mg "range" = none
  b_repr : mg "repr" = none
  f_law_purse : mg "_law_purse" = some (.ref (He.ga K "_law_purse"))
  F_law_purse : FunD K "_law_purse" "_law_purse" (defArgs (top 30)) (defBody (top 30)) (defScope (top 30)) [] [] (He.ga K "_law_purse") (fdOf K (He.ga K "_law_purse"))
  f_law_firsts : mg "_law_firsts" = some (.ref (He.ga K "_law_firsts"))
  F_law_firsts : FunD K "_law_firsts" "_law_firsts" (defArgs (top 33)) (defBody (top 33)) (defScope (top 33)) [] [] (He.ga K "_law_firsts") (fdOf K (He.ga K "_law_firsts"))
  f_law_flags : mg "_law_flags" = some (.ref (He.ga K "_law_flags"))
  F_law_flags : FunD K "_law_flags" "_law_flags" (defArgs (top 35)) (defBody (top 35)) (defScope (top 35)) [] [] (He.ga K "_law_flags") (fdOf K (He.ga K "_law_flags"))
  f_law_seconds : mg "_law_seconds" = some (.ref (He.ga K "_law_seconds"))
  F_law_seconds : FunD K "_law_seconds" "_law_seconds" (defArgs (top 34)) (defBody (top 34)) (defScope (top 34)) [] [] (He.ga K "_law_seconds") (fdOf K (He.ga K "_law_seconds"))
  f_law_draw : mg "_law_draw" = some (.ref (He.ga K "_law_draw"))
  F_law_draw : FunD K "_law_draw" "_law_draw" (defArgs (top 31)) (defBody (top 31)) (defScope (top 31)) [] [] (He.ga K "_law_draw") (fdOf K (He.ga K "_law_draw"))
  f_law_thing : mg "_law_thing" = some (.ref (He.ga K "_law_thing"))
  F_law_thing : FunD K "_law_thing" "_law_thing" (defArgs (top 32)) (defBody (top 32)) (defScope (top 32)) [] [] (He.ga K "_law_thing") (fdOf K (He.ga K "_law_thing"))
  f_law_right : mg "_law_right" = some (.ref (He.ga K "_law_right"))
  F_law_right : FunD K "_law_right" "_law_right" (defArgs (top 36)) (defBody (top 36)) (defScope (top 36)) [] [] (He.ga K "_law_right") (fdOf K (He.ga K "_law_right"))
  f_law : mg "law" = some (.ref (He.ga K "law"))
  F_law : FunD K "law" "law" (defArgs (top 37)) (defBody (top 37)) (defScope (top 37)) [] [] (He.ga K "law") (fdOf K (He.ga K "law"))
  F_Broken___init__ : FunD K "__init__" "Broken.__init__" (defArgs (mth 20 0)) (defBody (mth 20 0)) (defScope (mth 20 0)) [] [] (He.ma K (He.ga K "Broken") "__init__") (fdOf K (He.ma K (He.ga K "Broken") "__init__"))
  F_InUse___init__ : FunD K "__init__" "InUse.__init__" (defArgs (mth 21 0)) (defBody (mth 21 0)) (defScope (mth 21 0)) [] [] (He.ma K (He.ga K "InUse") "__init__") (fdOf K (He.ma K (He.ga K "InUse") "__init__"))
  F_InvalidCell___init__ : FunD K "__init__" "InvalidCell.__init__" (defArgs (mth 8 0)) (defBody (mth 8 0)) (defScope (mth 8 0)) [] [] (He.ma K (He.ga K "InvalidCell") "__init__") (fdOf K (He.ma K (He.ga K "InvalidCell") "__init__"))
  F_InvalidCells___init__ : FunD K "__init__" "InvalidCells.__init__" (defArgs (mth 15 0)) (defBody (mth 15 0)) (defScope (mth 15 0)) [] [] (He.ma K (He.ga K "InvalidCells") "__init__") (fdOf K (He.ma K (He.ga K "InvalidCells") "__init__"))
  F_InvalidClaim___init__ : FunD K "__init__" "InvalidClaim.__init__" (defArgs (mth 7 0)) (defBody (mth 7 0)) (defScope (mth 7 0)) [] [] (He.ma K (He.ga K "InvalidClaim") "__init__") (fdOf K (He.ma K (He.ga K "InvalidClaim") "__init__"))
  F_InvalidIndex___init__ : FunD K "__init__" "InvalidIndex.__init__" (defArgs (mth 6 0)) (defBody (mth 6 0)) (defScope (mth 6 0)) [] [] (He.ma K (He.ga K "InvalidIndex") "__init__") (fdOf K (He.ma K (He.ga K "InvalidIndex") "__init__"))
  F_InvalidMover___init__ : FunD K "__init__" "InvalidMover.__init__" (defArgs (mth 9 0)) (defBody (mth 9 0)) (defScope (mth 9 0)) [] [] (He.ma K (He.ga K "InvalidMover") "__init__") (fdOf K (He.ma K (He.ga K "InvalidMover") "__init__"))
  F_InvalidName___init__ : FunD K "__init__" "InvalidName.__init__" (defArgs (mth 5 0)) (defBody (mth 5 0)) (defScope (mth 5 0)) [] [] (He.ma K (He.ga K "InvalidName") "__init__") (fdOf K (He.ma K (He.ga K "InvalidName") "__init__"))
  F_InvalidNumber___init__ : FunD K "__init__" "InvalidNumber.__init__" (defArgs (mth 4 0)) (defBody (mth 4 0)) (defScope (mth 4 0)) [] [] (He.ma K (He.ga K "InvalidNumber") "__init__") (fdOf K (He.ma K (He.ga K "InvalidNumber") "__init__"))
  F_InvalidPairs___init__ : FunD K "__init__" "InvalidPairs.__init__" (defArgs (mth 16 0)) (defBody (mth 16 0)) (defScope (mth 16 0)) [] [] (He.ma K (He.ga K "InvalidPairs") "__init__") (fdOf K (He.ma K (He.ga K "InvalidPairs") "__init__"))
  F_InvalidText___init__ : FunD K "__init__" "InvalidText.__init__" (defArgs (mth 3 0)) (defBody (mth 3 0)) (defScope (mth 3 0)) [] [] (He.ma K (He.ga K "InvalidText") "__init__") (fdOf K (He.ma K (He.ga K "InvalidText") "__init__"))
  F_NotABoard___init__ : FunD K "__init__" "NotABoard.__init__" (defArgs (mth 11 0)) (defBody (mth 11 0)) (defScope (mth 11 0)) [] [] (He.ma K (He.ga K "NotABoard") "__init__") (fdOf K (He.ma K (He.ga K "NotABoard") "__init__"))
  F_NotAMatch___init__ : FunD K "__init__" "NotAMatch.__init__" (defArgs (mth 14 0)) (defBody (mth 14 0)) (defScope (mth 14 0)) [] [] (He.ma K (He.ga K "NotAMatch") "__init__") (fdOf K (He.ma K (He.ga K "NotAMatch") "__init__"))
  F_NotAPattern___init__ : FunD K "__init__" "NotAPattern.__init__" (defArgs (mth 13 0)) (defBody (mth 13 0)) (defScope (mth 13 0)) [] [] (He.ma K (He.ga K "NotAPattern") "__init__") (fdOf K (He.ma K (He.ga K "NotAPattern") "__init__"))
  F_NotAStand___init__ : FunD K "__init__" "NotAStand.__init__" (defArgs (mth 12 0)) (defBody (mth 12 0)) (defScope (mth 12 0)) [] [] (He.ma K (He.ga K "NotAStand") "__init__") (fdOf K (He.ma K (He.ga K "NotAStand") "__init__"))
  F_NotMutual___init__ : FunD K "__init__" "NotMutual.__init__" (defArgs (mth 17 0)) (defBody (mth 17 0)) (defScope (mth 17 0)) [] [] (He.ma K (He.ga K "NotMutual") "__init__") (fdOf K (He.ma K (He.ga K "NotMutual") "__init__"))
  F_TooMany___init__ : FunD K "__init__" "TooMany.__init__" (defArgs (mth 18 0)) (defBody (mth 18 0)) (defScope (mth 18 0)) [] [] (He.ma K (He.ga K "TooMany") "__init__") (fdOf K (He.ma K (He.ga K "TooMany") "__init__"))
  F_UnknownName___init__ : FunD K "__init__" "UnknownName.__init__" (defArgs (mth 10 0)) (defBody (mth 10 0)) (defScope (mth 10 0)) [] [] (He.ma K (He.ga K "UnknownName") "__init__") (fdOf K (He.ma K (He.ga K "UnknownName") "__init__"))
  told : toldB K = true
  ty_ArithmeticError : isTyB K "ArithmeticError" (fun c => !decide (c < 14)) = true
  ty_ValueError : isTyB K "ValueError" (fun c => decide (c < 14)) = true
  f_NoAnswer : mg "NoAnswer" = some (.ref (He.ga K "NoAnswer"))
  f_WrongValue : mg "WrongValue" = some (.ref (He.ga K "WrongValue"))
  f_Broken : mg "Broken" = some (.ref (He.ga K "Broken"))
  x_Broken : ExE K aeM aeN "Broken"
  f_InUse : mg "InUse" = some (.ref (He.ga K "InUse"))
  x_InUse : ExE K aeM aeN "InUse"
  f_InvalidCell : mg "InvalidCell" = some (.ref (He.ga K "InvalidCell"))
  x_InvalidCell : ExE K veM veN "InvalidCell"
  f_InvalidCells : mg "InvalidCells" = some (.ref (He.ga K "InvalidCells"))
  x_InvalidCells : ExE K veM veN "InvalidCells"
  f_InvalidClaim : mg "InvalidClaim" = some (.ref (He.ga K "InvalidClaim"))
  x_InvalidClaim : ExE K veM veN "InvalidClaim"
  f_InvalidIndex : mg "InvalidIndex" = some (.ref (He.ga K "InvalidIndex"))
  x_InvalidIndex : ExE K veM veN "InvalidIndex"
  f_InvalidMover : mg "InvalidMover" = some (.ref (He.ga K "InvalidMover"))
  x_InvalidMover : ExE K veM veN "InvalidMover"
  f_InvalidName : mg "InvalidName" = some (.ref (He.ga K "InvalidName"))
  x_InvalidName : ExE K veM veN "InvalidName"
  f_InvalidNumber : mg "InvalidNumber" = some (.ref (He.ga K "InvalidNumber"))
  x_InvalidNumber : ExE K veM veN "InvalidNumber"
  f_InvalidPairs : mg "InvalidPairs" = some (.ref (He.ga K "InvalidPairs"))
  x_InvalidPairs : ExE K veM veN "InvalidPairs"
  f_InvalidText : mg "InvalidText" = some (.ref (He.ga K "InvalidText"))
  x_InvalidText : ExE K veM veN "InvalidText"
  f_IsOver : mg "IsOver" = some (.ref (He.ga K "IsOver"))
  x_IsOver : ExN K "IsOver"
  f_NotABoard : mg "NotABoard" = some (.ref (He.ga K "NotABoard"))
  x_NotABoard : ExE K veM veN "NotABoard"
  f_NotAMatch : mg "NotAMatch" = some (.ref (He.ga K "NotAMatch"))
  x_NotAMatch : ExE K veM veN "NotAMatch"
  f_NotAPattern : mg "NotAPattern" = some (.ref (He.ga K "NotAPattern"))
  x_NotAPattern : ExE K veM veN "NotAPattern"
  f_NotAStand : mg "NotAStand" = some (.ref (He.ga K "NotAStand"))
  x_NotAStand : ExE K veM veN "NotAStand"
  f_NotMutual : mg "NotMutual" = some (.ref (He.ga K "NotMutual"))
  x_NotMutual : ExE K aeM aeN "NotMutual"
  f_NothingToUndo : mg "NothingToUndo" = some (.ref (He.ga K "NothingToUndo"))
  x_NothingToUndo : ExN K "NothingToUndo"
  f_TooMany : mg "TooMany" = some (.ref (He.ga K "TooMany"))
  x_TooMany : ExE K aeM aeN "TooMany"
  f_UnknownName : mg "UnknownName" = some (.ref (He.ga K "UnknownName"))
  x_UnknownName : ExE K veM veN "UnknownName"
  ok : WdOk (wd w K)
  c_MOST_CELLS : ∃ t, mg "MOST_CELLS" = some (.int 30 t)
  c_MOST_FORCED : ∃ t, mg "MOST_FORCED" = some (.int 16 t)
  c_MOST_FREE : ∃ t, mg "MOST_FREE" = some (.int 10 t)
  c_MOST_LINES : ∃ t, mg "MOST_LINES" = some (.int 30 t)
  c_MOST_PAIRED : ∃ t, mg "MOST_PAIRED" = some (.int 12 t)
  c_MOST_SIDE : ∃ t, mg "MOST_SIDE" = some (.int 12 t)
section
variable {P : Program} {w : World} {K : PySem.W.Frag} {mg : Str → Option Value} {base : Heap}
theorem sc_Broken___init__ : FnScope ["self", "index", "told"] ["self", "index", "told"] (defScope (mth 20 0)) := ⟨rfl, rfl, rfl, by decide +kernel, rfl, by decide +kernel, by decide +kernel⟩
theorem b_Broken___init__ (g : Gs w K mg) : Binds K (fdOf K (He.ma K (He.ga K "Broken") "__init__")) ["self", "index", "told"] [] := g.F_Broken___init__.bindsN fun _ _ _ _ _ _ us hl => match us, hl with | [_, _, _], _ => rfl
theorem ok_Broken___init__ (g : Gs w K mg) : FnOk P w K mg base CX0 1 (He.ma K (He.ga K "Broken") "__init__") (fdOf K (He.ma K (He.ga K "Broken") "__init__")) ["self", "index", "told"] (spInit2 K aeM aeN "index" "told") :=
  fnInit2 (by decide) g.F_Broken___init__ sc_Broken___init__ (fun cdv A outer st H E => psStoreB PySem.F.store_ArithmeticError (pe_var rfl (.inl rfl)) (pe_var rfl (.inl rfl))) (fun cdv A outer st H E => psStore2 PySem.F.store_ArithmeticError (pe_var rfl (.inl rfl)) (pe_var rfl (.inl rfl)))
theorem kb_Broken___init___told_index (g : Gs w K mg) : KwB K (fdOf K (He.ma K (He.ga K "Broken") "__init__")) ["self", "index", "told"] ["told", "index"] 1 [1, 0] := kwB g.F_Broken___init__ fun _ _ _ _ _ _ us ws h1 h2 => match us, ws, h1, h2 with | [_], [_, _], _, _ => rfl
theorem sc_InUse___init__ : FnScope ["self", "index"] ["self", "index"] (defScope (mth 21 0)) := ⟨rfl, rfl, rfl, by decide +kernel, rfl, by decide +kernel, by decide +kernel⟩
theorem b_InUse___init__ (g : Gs w K mg) : Binds K (fdOf K (He.ma K (He.ga K "InUse") "__init__")) ["self", "index"] [] := g.F_InUse___init__.bindsN fun _ _ _ _ _ _ us hl => match us, hl with | [_, _], _ => rfl
theorem ok_InUse___init__ (g : Gs w K mg) : FnOk P w K mg base CX0 1 (He.ma K (He.ga K "InUse") "__init__") (fdOf K (He.ma K (He.ga K "InUse") "__init__")) ["self", "index"] (spInitB K aeM aeN "index") :=
  fnInitB g.F_InUse___init__ sc_InUse___init__ fun cdv A outer st H E => pss_one (psStoreB PySem.F.store_ArithmeticError (pe_var rfl (.inl rfl)) (pe_var rfl (.inl rfl)))
theorem kb_InUse___init___index (g : Gs w K mg) : KwB K (fdOf K (He.ma K (He.ga K "InUse") "__init__")) ["self", "index"] ["index"] 1 [0] := kwB g.F_InUse___init__ fun _ _ _ _ _ _ us ws h1 h2 => match us, ws, h1, h2 with | [_], [_], _, _ => rfl
theorem sc_InvalidCell___init__ : FnScope ["self", "given"] ["self", "given"] (defScope (mth 8 0)) := ⟨rfl, rfl, rfl, by decide +kernel, rfl, by decide +kernel, by decide +kernel⟩
theorem b_InvalidCell___init__ (g : Gs w K mg) : Binds K (fdOf K (He.ma K (He.ga K "InvalidCell") "__init__")) ["self", "given"] [] := g.F_InvalidCell___init__.bindsN fun _ _ _ _ _ _ us hl => match us, hl with | [_, _], _ => rfl
theorem ok_InvalidCell___init__ (g : Gs w K mg) : FnOk P w K mg base CX0 1 (He.ma K (He.ga K "InvalidCell") "__init__") (fdOf K (He.ma K (He.ga K "InvalidCell") "__init__")) ["self", "given"] (spInitB K veM veN "given") :=
  fnInitB g.F_InvalidCell___init__ sc_InvalidCell___init__ fun cdv A outer st H E => pss_one (psStoreB PySem.F.store_ValueError (pe_var rfl (.inl rfl)) (pe_var rfl (.inl rfl)))
theorem kb_InvalidCell___init___given (g : Gs w K mg) : KwB K (fdOf K (He.ma K (He.ga K "InvalidCell") "__init__")) ["self", "given"] ["given"] 1 [0] := kwB g.F_InvalidCell___init__ fun _ _ _ _ _ _ us ws h1 h2 => match us, ws, h1, h2 with | [_], [_], _, _ => rfl
theorem sc_InvalidCells___init__ : FnScope ["self", "index"] ["self", "index"] (defScope (mth 15 0)) := ⟨rfl, rfl, rfl, by decide +kernel, rfl, by decide +kernel, by decide +kernel⟩
theorem b_InvalidCells___init__ (g : Gs w K mg) : Binds K (fdOf K (He.ma K (He.ga K "InvalidCells") "__init__")) ["self", "index"] [] := g.F_InvalidCells___init__.bindsN fun _ _ _ _ _ _ us hl => match us, hl with | [_, _], _ => rfl
theorem ok_InvalidCells___init__ (g : Gs w K mg) : FnOk P w K mg base CX0 1 (He.ma K (He.ga K "InvalidCells") "__init__") (fdOf K (He.ma K (He.ga K "InvalidCells") "__init__")) ["self", "index"] (spInitB K veM veN "index") :=
  fnInitB g.F_InvalidCells___init__ sc_InvalidCells___init__ fun cdv A outer st H E => pss_one (psStoreB PySem.F.store_ValueError (pe_var rfl (.inl rfl)) (pe_var rfl (.inl rfl)))
theorem kb_InvalidCells___init___index (g : Gs w K mg) : KwB K (fdOf K (He.ma K (He.ga K "InvalidCells") "__init__")) ["self", "index"] ["index"] 1 [0] := kwB g.F_InvalidCells___init__ fun _ _ _ _ _ _ us ws h1 h2 => match us, ws, h1, h2 with | [_], [_], _, _ => rfl
theorem sc_InvalidClaim___init__ : FnScope ["self", "given"] ["self", "given"] (defScope (mth 7 0)) := ⟨rfl, rfl, rfl, by decide +kernel, rfl, by decide +kernel, by decide +kernel⟩
theorem b_InvalidClaim___init__ (g : Gs w K mg) : Binds K (fdOf K (He.ma K (He.ga K "InvalidClaim") "__init__")) ["self", "given"] [] := g.F_InvalidClaim___init__.bindsN fun _ _ _ _ _ _ us hl => match us, hl with | [_, _], _ => rfl
theorem ok_InvalidClaim___init__ (g : Gs w K mg) : FnOk P w K mg base CX0 1 (He.ma K (He.ga K "InvalidClaim") "__init__") (fdOf K (He.ma K (He.ga K "InvalidClaim") "__init__")) ["self", "given"] (spInitB K veM veN "given") :=
  fnInitB g.F_InvalidClaim___init__ sc_InvalidClaim___init__ fun cdv A outer st H E => pss_one (psStoreB PySem.F.store_ValueError (pe_var rfl (.inl rfl)) (pe_var rfl (.inl rfl)))
theorem kb_InvalidClaim___init___given (g : Gs w K mg) : KwB K (fdOf K (He.ma K (He.ga K "InvalidClaim") "__init__")) ["self", "given"] ["given"] 1 [0] := kwB g.F_InvalidClaim___init__ fun _ _ _ _ _ _ us ws h1 h2 => match us, ws, h1, h2 with | [_], [_], _, _ => rfl
theorem sc_InvalidIndex___init__ : FnScope ["self", "given"] ["self", "given"] (defScope (mth 6 0)) := ⟨rfl, rfl, rfl, by decide +kernel, rfl, by decide +kernel, by decide +kernel⟩
theorem b_InvalidIndex___init__ (g : Gs w K mg) : Binds K (fdOf K (He.ma K (He.ga K "InvalidIndex") "__init__")) ["self", "given"] [] := g.F_InvalidIndex___init__.bindsN fun _ _ _ _ _ _ us hl => match us, hl with | [_, _], _ => rfl
theorem ok_InvalidIndex___init__ (g : Gs w K mg) : FnOk P w K mg base CX0 1 (He.ma K (He.ga K "InvalidIndex") "__init__") (fdOf K (He.ma K (He.ga K "InvalidIndex") "__init__")) ["self", "given"] (spInitB K veM veN "given") :=
  fnInitB g.F_InvalidIndex___init__ sc_InvalidIndex___init__ fun cdv A outer st H E => pss_one (psStoreB PySem.F.store_ValueError (pe_var rfl (.inl rfl)) (pe_var rfl (.inl rfl)))
theorem kb_InvalidIndex___init___given (g : Gs w K mg) : KwB K (fdOf K (He.ma K (He.ga K "InvalidIndex") "__init__")) ["self", "given"] ["given"] 1 [0] := kwB g.F_InvalidIndex___init__ fun _ _ _ _ _ _ us ws h1 h2 => match us, ws, h1, h2 with | [_], [_], _, _ => rfl
theorem sc_InvalidMover___init__ : FnScope ["self", "given"] ["self", "given"] (defScope (mth 9 0)) := ⟨rfl, rfl, rfl, by decide +kernel, rfl, by decide +kernel, by decide +kernel⟩
theorem b_InvalidMover___init__ (g : Gs w K mg) : Binds K (fdOf K (He.ma K (He.ga K "InvalidMover") "__init__")) ["self", "given"] [] := g.F_InvalidMover___init__.bindsN fun _ _ _ _ _ _ us hl => match us, hl with | [_, _], _ => rfl
theorem ok_InvalidMover___init__ (g : Gs w K mg) : FnOk P w K mg base CX0 1 (He.ma K (He.ga K "InvalidMover") "__init__") (fdOf K (He.ma K (He.ga K "InvalidMover") "__init__")) ["self", "given"] (spInitB K veM veN "given") :=
  fnInitB g.F_InvalidMover___init__ sc_InvalidMover___init__ fun cdv A outer st H E => pss_one (psStoreB PySem.F.store_ValueError (pe_var rfl (.inl rfl)) (pe_var rfl (.inl rfl)))
theorem kb_InvalidMover___init___given (g : Gs w K mg) : KwB K (fdOf K (He.ma K (He.ga K "InvalidMover") "__init__")) ["self", "given"] ["given"] 1 [0] := kwB g.F_InvalidMover___init__ fun _ _ _ _ _ _ us ws h1 h2 => match us, ws, h1, h2 with | [_], [_], _, _ => rfl
theorem sc_InvalidName___init__ : FnScope ["self", "given"] ["self", "given"] (defScope (mth 5 0)) := ⟨rfl, rfl, rfl, by decide +kernel, rfl, by decide +kernel, by decide +kernel⟩
theorem b_InvalidName___init__ (g : Gs w K mg) : Binds K (fdOf K (He.ma K (He.ga K "InvalidName") "__init__")) ["self", "given"] [] := g.F_InvalidName___init__.bindsN fun _ _ _ _ _ _ us hl => match us, hl with | [_, _], _ => rfl
theorem ok_InvalidName___init__ (g : Gs w K mg) : FnOk P w K mg base CX0 1 (He.ma K (He.ga K "InvalidName") "__init__") (fdOf K (He.ma K (He.ga K "InvalidName") "__init__")) ["self", "given"] (spInitB K veM veN "given") :=
  fnInitB g.F_InvalidName___init__ sc_InvalidName___init__ fun cdv A outer st H E => pss_one (psStoreB PySem.F.store_ValueError (pe_var rfl (.inl rfl)) (pe_var rfl (.inl rfl)))
theorem kb_InvalidName___init___given (g : Gs w K mg) : KwB K (fdOf K (He.ma K (He.ga K "InvalidName") "__init__")) ["self", "given"] ["given"] 1 [0] := kwB g.F_InvalidName___init__ fun _ _ _ _ _ _ us ws h1 h2 => match us, ws, h1, h2 with | [_], [_], _, _ => rfl
theorem sc_InvalidNumber___init__ : FnScope ["self", "given"] ["self", "given"] (defScope (mth 4 0)) := ⟨rfl, rfl, rfl, by decide +kernel, rfl, by decide +kernel, by decide +kernel⟩
theorem b_InvalidNumber___init__ (g : Gs w K mg) : Binds K (fdOf K (He.ma K (He.ga K "InvalidNumber") "__init__")) ["self", "given"] [] := g.F_InvalidNumber___init__.bindsN fun _ _ _ _ _ _ us hl => match us, hl with | [_, _], _ => rfl
theorem ok_InvalidNumber___init__ (g : Gs w K mg) : FnOk P w K mg base CX0 1 (He.ma K (He.ga K "InvalidNumber") "__init__") (fdOf K (He.ma K (He.ga K "InvalidNumber") "__init__")) ["self", "given"] (spInitB K veM veN "given") :=
  fnInitB g.F_InvalidNumber___init__ sc_InvalidNumber___init__ fun cdv A outer st H E => pss_one (psStoreB PySem.F.store_ValueError (pe_var rfl (.inl rfl)) (pe_var rfl (.inl rfl)))
theorem kb_InvalidNumber___init___given (g : Gs w K mg) : KwB K (fdOf K (He.ma K (He.ga K "InvalidNumber") "__init__")) ["self", "given"] ["given"] 1 [0] := kwB g.F_InvalidNumber___init__ fun _ _ _ _ _ _ us ws h1 h2 => match us, ws, h1, h2 with | [_], [_], _, _ => rfl
theorem sc_InvalidPairs___init__ : FnScope ["self", "index"] ["self", "index"] (defScope (mth 16 0)) := ⟨rfl, rfl, rfl, by decide +kernel, rfl, by decide +kernel, by decide +kernel⟩
theorem b_InvalidPairs___init__ (g : Gs w K mg) : Binds K (fdOf K (He.ma K (He.ga K "InvalidPairs") "__init__")) ["self", "index"] [] := g.F_InvalidPairs___init__.bindsN fun _ _ _ _ _ _ us hl => match us, hl with | [_, _], _ => rfl
theorem ok_InvalidPairs___init__ (g : Gs w K mg) : FnOk P w K mg base CX0 1 (He.ma K (He.ga K "InvalidPairs") "__init__") (fdOf K (He.ma K (He.ga K "InvalidPairs") "__init__")) ["self", "index"] (spInitB K veM veN "index") :=
  fnInitB g.F_InvalidPairs___init__ sc_InvalidPairs___init__ fun cdv A outer st H E => pss_one (psStoreB PySem.F.store_ValueError (pe_var rfl (.inl rfl)) (pe_var rfl (.inl rfl)))
theorem kb_InvalidPairs___init___index (g : Gs w K mg) : KwB K (fdOf K (He.ma K (He.ga K "InvalidPairs") "__init__")) ["self", "index"] ["index"] 1 [0] := kwB g.F_InvalidPairs___init__ fun _ _ _ _ _ _ us ws h1 h2 => match us, ws, h1, h2 with | [_], [_], _, _ => rfl
theorem sc_InvalidText___init__ : FnScope ["self", "given"] ["self", "given"] (defScope (mth 3 0)) := ⟨rfl, rfl, rfl, by decide +kernel, rfl, by decide +kernel, by decide +kernel⟩
theorem b_InvalidText___init__ (g : Gs w K mg) : Binds K (fdOf K (He.ma K (He.ga K "InvalidText") "__init__")) ["self", "given"] [] := g.F_InvalidText___init__.bindsN fun _ _ _ _ _ _ us hl => match us, hl with | [_, _], _ => rfl
theorem ok_InvalidText___init__ (g : Gs w K mg) : FnOk P w K mg base CX0 1 (He.ma K (He.ga K "InvalidText") "__init__") (fdOf K (He.ma K (He.ga K "InvalidText") "__init__")) ["self", "given"] (spInitB K veM veN "given") :=
  fnInitB g.F_InvalidText___init__ sc_InvalidText___init__ fun cdv A outer st H E => pss_one (psStoreB PySem.F.store_ValueError (pe_var rfl (.inl rfl)) (pe_var rfl (.inl rfl)))
theorem kb_InvalidText___init___given (g : Gs w K mg) : KwB K (fdOf K (He.ma K (He.ga K "InvalidText") "__init__")) ["self", "given"] ["given"] 1 [0] := kwB g.F_InvalidText___init__ fun _ _ _ _ _ _ us ws h1 h2 => match us, ws, h1, h2 with | [_], [_], _, _ => rfl
theorem sc_NotABoard___init__ : FnScope ["self", "given"] ["self", "given"] (defScope (mth 11 0)) := ⟨rfl, rfl, rfl, by decide +kernel, rfl, by decide +kernel, by decide +kernel⟩
theorem b_NotABoard___init__ (g : Gs w K mg) : Binds K (fdOf K (He.ma K (He.ga K "NotABoard") "__init__")) ["self", "given"] [] := g.F_NotABoard___init__.bindsN fun _ _ _ _ _ _ us hl => match us, hl with | [_, _], _ => rfl
theorem ok_NotABoard___init__ (g : Gs w K mg) : FnOk P w K mg base CX0 1 (He.ma K (He.ga K "NotABoard") "__init__") (fdOf K (He.ma K (He.ga K "NotABoard") "__init__")) ["self", "given"] (spInitB K veM veN "given") :=
  fnInitB g.F_NotABoard___init__ sc_NotABoard___init__ fun cdv A outer st H E => pss_one (psStoreB PySem.F.store_ValueError (pe_var rfl (.inl rfl)) (pe_var rfl (.inl rfl)))
theorem kb_NotABoard___init___given (g : Gs w K mg) : KwB K (fdOf K (He.ma K (He.ga K "NotABoard") "__init__")) ["self", "given"] ["given"] 1 [0] := kwB g.F_NotABoard___init__ fun _ _ _ _ _ _ us ws h1 h2 => match us, ws, h1, h2 with | [_], [_], _, _ => rfl
theorem sc_NotAMatch___init__ : FnScope ["self", "given"] ["self", "given"] (defScope (mth 14 0)) := ⟨rfl, rfl, rfl, by decide +kernel, rfl, by decide +kernel, by decide +kernel⟩
theorem b_NotAMatch___init__ (g : Gs w K mg) : Binds K (fdOf K (He.ma K (He.ga K "NotAMatch") "__init__")) ["self", "given"] [] := g.F_NotAMatch___init__.bindsN fun _ _ _ _ _ _ us hl => match us, hl with | [_, _], _ => rfl
theorem ok_NotAMatch___init__ (g : Gs w K mg) : FnOk P w K mg base CX0 1 (He.ma K (He.ga K "NotAMatch") "__init__") (fdOf K (He.ma K (He.ga K "NotAMatch") "__init__")) ["self", "given"] (spInitB K veM veN "given") :=
  fnInitB g.F_NotAMatch___init__ sc_NotAMatch___init__ fun cdv A outer st H E => pss_one (psStoreB PySem.F.store_ValueError (pe_var rfl (.inl rfl)) (pe_var rfl (.inl rfl)))
theorem kb_NotAMatch___init___given (g : Gs w K mg) : KwB K (fdOf K (He.ma K (He.ga K "NotAMatch") "__init__")) ["self", "given"] ["given"] 1 [0] := kwB g.F_NotAMatch___init__ fun _ _ _ _ _ _ us ws h1 h2 => match us, ws, h1, h2 with | [_], [_], _, _ => rfl
theorem sc_NotAPattern___init__ : FnScope ["self", "given"] ["self", "given"] (defScope (mth 13 0)) := ⟨rfl, rfl, rfl, by decide +kernel, rfl, by decide +kernel, by decide +kernel⟩
theorem b_NotAPattern___init__ (g : Gs w K mg) : Binds K (fdOf K (He.ma K (He.ga K "NotAPattern") "__init__")) ["self", "given"] [] := g.F_NotAPattern___init__.bindsN fun _ _ _ _ _ _ us hl => match us, hl with | [_, _], _ => rfl
theorem ok_NotAPattern___init__ (g : Gs w K mg) : FnOk P w K mg base CX0 1 (He.ma K (He.ga K "NotAPattern") "__init__") (fdOf K (He.ma K (He.ga K "NotAPattern") "__init__")) ["self", "given"] (spInitB K veM veN "given") :=
  fnInitB g.F_NotAPattern___init__ sc_NotAPattern___init__ fun cdv A outer st H E => pss_one (psStoreB PySem.F.store_ValueError (pe_var rfl (.inl rfl)) (pe_var rfl (.inl rfl)))
theorem kb_NotAPattern___init___given (g : Gs w K mg) : KwB K (fdOf K (He.ma K (He.ga K "NotAPattern") "__init__")) ["self", "given"] ["given"] 1 [0] := kwB g.F_NotAPattern___init__ fun _ _ _ _ _ _ us ws h1 h2 => match us, ws, h1, h2 with | [_], [_], _, _ => rfl
theorem sc_NotAStand___init__ : FnScope ["self", "given"] ["self", "given"] (defScope (mth 12 0)) := ⟨rfl, rfl, rfl, by decide +kernel, rfl, by decide +kernel, by decide +kernel⟩
theorem b_NotAStand___init__ (g : Gs w K mg) : Binds K (fdOf K (He.ma K (He.ga K "NotAStand") "__init__")) ["self", "given"] [] := g.F_NotAStand___init__.bindsN fun _ _ _ _ _ _ us hl => match us, hl with | [_, _], _ => rfl
theorem ok_NotAStand___init__ (g : Gs w K mg) : FnOk P w K mg base CX0 1 (He.ma K (He.ga K "NotAStand") "__init__") (fdOf K (He.ma K (He.ga K "NotAStand") "__init__")) ["self", "given"] (spInitB K veM veN "given") :=
  fnInitB g.F_NotAStand___init__ sc_NotAStand___init__ fun cdv A outer st H E => pss_one (psStoreB PySem.F.store_ValueError (pe_var rfl (.inl rfl)) (pe_var rfl (.inl rfl)))
theorem kb_NotAStand___init___given (g : Gs w K mg) : KwB K (fdOf K (He.ma K (He.ga K "NotAStand") "__init__")) ["self", "given"] ["given"] 1 [0] := kwB g.F_NotAStand___init__ fun _ _ _ _ _ _ us ws h1 h2 => match us, ws, h1, h2 with | [_], [_], _, _ => rfl
theorem sc_NotMutual___init__ : FnScope ["self", "place"] ["self", "place"] (defScope (mth 17 0)) := ⟨rfl, rfl, rfl, by decide +kernel, rfl, by decide +kernel, by decide +kernel⟩
theorem b_NotMutual___init__ (g : Gs w K mg) : Binds K (fdOf K (He.ma K (He.ga K "NotMutual") "__init__")) ["self", "place"] [] := g.F_NotMutual___init__.bindsN fun _ _ _ _ _ _ us hl => match us, hl with | [_, _], _ => rfl
theorem ok_NotMutual___init__ (g : Gs w K mg) : FnOk P w K mg base CX0 1 (He.ma K (He.ga K "NotMutual") "__init__") (fdOf K (He.ma K (He.ga K "NotMutual") "__init__")) ["self", "place"] (spInitB K aeM aeN "place") :=
  fnInitB g.F_NotMutual___init__ sc_NotMutual___init__ fun cdv A outer st H E => pss_one (psStoreB PySem.F.store_ArithmeticError (pe_var rfl (.inl rfl)) (pe_var rfl (.inl rfl)))
theorem kb_NotMutual___init___place (g : Gs w K mg) : KwB K (fdOf K (He.ma K (He.ga K "NotMutual") "__init__")) ["self", "place"] ["place"] 1 [0] := kwB g.F_NotMutual___init__ fun _ _ _ _ _ _ us ws h1 h2 => match us, ws, h1, h2 with | [_], [_], _, _ => rfl
theorem sc_TooMany___init__ : FnScope ["self", "number"] ["self", "number"] (defScope (mth 18 0)) := ⟨rfl, rfl, rfl, by decide +kernel, rfl, by decide +kernel, by decide +kernel⟩
theorem b_TooMany___init__ (g : Gs w K mg) : Binds K (fdOf K (He.ma K (He.ga K "TooMany") "__init__")) ["self", "number"] [] := g.F_TooMany___init__.bindsN fun _ _ _ _ _ _ us hl => match us, hl with | [_, _], _ => rfl
theorem ok_TooMany___init__ (g : Gs w K mg) : FnOk P w K mg base CX0 1 (He.ma K (He.ga K "TooMany") "__init__") (fdOf K (He.ma K (He.ga K "TooMany") "__init__")) ["self", "number"] (spInitB K aeM aeN "number") :=
  fnInitB g.F_TooMany___init__ sc_TooMany___init__ fun cdv A outer st H E => pss_one (psStoreB PySem.F.store_ArithmeticError (pe_var rfl (.inl rfl)) (pe_var rfl (.inl rfl)))
theorem kb_TooMany___init___number (g : Gs w K mg) : KwB K (fdOf K (He.ma K (He.ga K "TooMany") "__init__")) ["self", "number"] ["number"] 1 [0] := kwB g.F_TooMany___init__ fun _ _ _ _ _ _ us ws h1 h2 => match us, ws, h1, h2 with | [_], [_], _, _ => rfl
theorem sc_UnknownName___init__ : FnScope ["self", "given"] ["self", "given"] (defScope (mth 10 0)) := ⟨rfl, rfl, rfl, by decide +kernel, rfl, by decide +kernel, by decide +kernel⟩
theorem b_UnknownName___init__ (g : Gs w K mg) : Binds K (fdOf K (He.ma K (He.ga K "UnknownName") "__init__")) ["self", "given"] [] := g.F_UnknownName___init__.bindsN fun _ _ _ _ _ _ us hl => match us, hl with | [_, _], _ => rfl
theorem ok_UnknownName___init__ (g : Gs w K mg) : FnOk P w K mg base CX0 1 (He.ma K (He.ga K "UnknownName") "__init__") (fdOf K (He.ma K (He.ga K "UnknownName") "__init__")) ["self", "given"] (spInitB K veM veN "given") :=
  fnInitB g.F_UnknownName___init__ sc_UnknownName___init__ fun cdv A outer st H E => pss_one (psStoreB PySem.F.store_ValueError (pe_var rfl (.inl rfl)) (pe_var rfl (.inl rfl)))
theorem kb_UnknownName___init___given (g : Gs w K mg) : KwB K (fdOf K (He.ma K (He.ga K "UnknownName") "__init__")) ["self", "given"] ["given"] 1 [0] := kwB g.F_UnknownName___init__ fun _ _ _ _ _ _ us ws h1 h2 => match us, ws, h1, h2 with | [_], [_], _, _ => rfl
theorem sc_law_purse : FnScope ["_law_script", "_law_spot", "_law_cell", "_law_seed", "_law_one"] ["_law_script", "_law_spot"] (defScope (top 30)) := ⟨rfl, rfl, rfl, by decide +kernel, rfl, by decide +kernel, by decide +kernel⟩
theorem b_law_purse (g : Gs w K mg) : Binds K (fdOf K (He.ga K "_law_purse")) ["_law_script", "_law_spot"] [] := g.F_law_purse.bindsN fun _ _ _ _ _ _ us hl => match us, hl with | [_, _], _ => rfl
theorem ok_law_purse (g : Gs w K mg) : FnOk P w K mg base CX0 1 (He.ga K "_law_purse") (fdOf K (He.ga K "_law_purse")) ["_law_script", "_law_spot"] (spM (wd w K) m_law_purse) :=
  fnM g.F_law_purse sc_law_purse 5 2 rfl rfl fun cdv A outer s H E hr =>
    (xsCons (xsSet (i := 2) sc_law_purse.nd rfl (.inl rfl) (xIf (xtCmp ot_lt (oLt (room80 hr)) (xVar 1) (xCallB ct_len call_len rfl g.b_len bt_len (xaCons (xVar 0) xaNil))) (xIx rfl (xVar 0) (xVar 1) (fun _ _ => rfl)) (xOp ot_mul oMul xInt (xOp ot_add oAdd (xVar 1) xInt))))
    (xsCons (xsSet (i := 3) sc_law_purse.nd rfl (.inl rfl) (xOp ot_add oAdd xInt (xVar 1)))
    (xsCons (xsFor (fun _ _ z => z.elim) rfl (xiSeq rfl (xOp ot_add oAdd (xSl rfl (xVar 0) xoNo (xoSome xInt)) (xL (xLst (xaCons (xVar 2) xaNil))))) (xgName (i := 4) sc_law_purse.nd rfl (.inl rfl)) (xsOne (xsSet (i := 3) sc_law_purse.nd rfl (.inl rfl) (xOp ot_mod op_mod (xCallTy ct_int oInt rfl g.b_int bt_int (xaCons (xOp ot_add oAdd (xOp ot_add oAdd (xOp ot_mul oMul (xVar 3) xInt) (xOp ot_mod op_mod (xCallTy ct_int oInt rfl g.b_int bt_int (xaCons (xVar 4) xaNil)) xInt)) xInt) xaNil)) xInt))))
    (xsOne (xsRet (xH (xLst (xaCons (xIf (xtCmp ot_ge (oGe (room80 hr)) (xCallB ct_abs call_abs rfl g.b_abs bt_abs (xaCons (xVar 2) xaNil)) (xOp ot_pow op_pow xInt xInt)) (xCallB ct_abs call_abs rfl g.b_abs bt_abs (xaCons (xVar 2) xaNil)) xInt) (xaCons (xVar 3) xaNil)))))))))
theorem sc_law_firsts : FnScope ["_law_x", "_law_found"] ["_law_x"] (defScope (top 33)) := ⟨rfl, rfl, rfl, by decide +kernel, rfl, by decide +kernel, by decide +kernel⟩
theorem b_law_firsts (g : Gs w K mg) : Binds K (fdOf K (He.ga K "_law_firsts")) ["_law_x"] [] := g.F_law_firsts.bindsN fun _ _ _ _ _ _ us hl => match us, hl with | [_], _ => rfl
theorem ok_law_firsts (g : Gs w K mg) : FnOk P w K mg base CX0 3 (He.ga K "_law_firsts") (fdOf K (He.ga K "_law_firsts")) ["_law_x"] (spM (wd w K) m_law_firsts) :=
  fnM g.F_law_firsts sc_law_firsts 2 1 rfl rfl fun cdv A outer s H E hr =>
    (xsCons (xsSet (i := 1) sc_law_firsts.nd rfl (.inl rfl) (xL (xLst (xaCons (xTup (xaCons (xMkE1 (c := 0) PySem.F.excBase_ValueError g.x_InvalidText rfl rfl ((toldB_ok (c := 0) g.told rfl).no "given" (by decide)) (ok_InvalidText___init__ g) (hr.mono (by decide)) (b_InvalidText___init__ g) rfl g.f_InvalidText (xaCons (xVar 0) xaNil) (len_cons len_nil)) (xaCons (xMkE1K (c := 0) PySem.F.excBase_ValueError g.x_InvalidText rfl rfl ((toldB_ok (c := 0) g.told rfl).no "given" (by decide)) (ok_InvalidText___init__ g) (hr.mono (by decide)) (kb_InvalidText___init___given g) rfl g.f_InvalidText (xkCons (xVar 0) xkNil) (len_cons len_nil) (perm_len (len_cons len_nil) permL_1)) xaNil))) (xaCons (xTup (xaCons (xMkE1 (c := 1) PySem.F.excBase_ValueError g.x_InvalidNumber rfl rfl ((toldB_ok (c := 1) g.told rfl).no "given" (by decide)) (ok_InvalidNumber___init__ g) (hr.mono (by decide)) (b_InvalidNumber___init__ g) rfl g.f_InvalidNumber (xaCons (xVar 0) xaNil) (len_cons len_nil)) (xaCons (xMkE1K (c := 1) PySem.F.excBase_ValueError g.x_InvalidNumber rfl rfl ((toldB_ok (c := 1) g.told rfl).no "given" (by decide)) (ok_InvalidNumber___init__ g) (hr.mono (by decide)) (kb_InvalidNumber___init___given g) rfl g.f_InvalidNumber (xkCons (xVar 0) xkNil) (len_cons len_nil) (perm_len (len_cons len_nil) permL_1)) xaNil))) xaNil)))))
    (xsCons (xsSet (i := 1) sc_law_firsts.nd rfl (.inl rfl) (xOp ot_add oAdd (xVar 1) (xL (xLst (xaCons (xTup (xaCons (xMkE1 (c := 2) PySem.F.excBase_ValueError g.x_InvalidName rfl rfl ((toldB_ok (c := 2) g.told rfl).no "given" (by decide)) (ok_InvalidName___init__ g) (hr.mono (by decide)) (b_InvalidName___init__ g) rfl g.f_InvalidName (xaCons (xVar 0) xaNil) (len_cons len_nil)) (xaCons (xMkE1K (c := 2) PySem.F.excBase_ValueError g.x_InvalidName rfl rfl ((toldB_ok (c := 2) g.told rfl).no "given" (by decide)) (ok_InvalidName___init__ g) (hr.mono (by decide)) (kb_InvalidName___init___given g) rfl g.f_InvalidName (xkCons (xVar 0) xkNil) (len_cons len_nil) (perm_len (len_cons len_nil) permL_1)) xaNil))) (xaCons (xTup (xaCons (xMkE1 (c := 3) PySem.F.excBase_ValueError g.x_InvalidIndex rfl rfl ((toldB_ok (c := 3) g.told rfl).no "given" (by decide)) (ok_InvalidIndex___init__ g) (hr.mono (by decide)) (b_InvalidIndex___init__ g) rfl g.f_InvalidIndex (xaCons (xVar 0) xaNil) (len_cons len_nil)) (xaCons (xMkE1K (c := 3) PySem.F.excBase_ValueError g.x_InvalidIndex rfl rfl ((toldB_ok (c := 3) g.told rfl).no "given" (by decide)) (ok_InvalidIndex___init__ g) (hr.mono (by decide)) (kb_InvalidIndex___init___given g) rfl g.f_InvalidIndex (xkCons (xVar 0) xkNil) (len_cons len_nil) (perm_len (len_cons len_nil) permL_1)) xaNil))) xaNil))))))
    (xsCons (xsSet (i := 1) sc_law_firsts.nd rfl (.inl rfl) (xOp ot_add oAdd (xVar 1) (xL (xLst (xaCons (xTup (xaCons (xMkE1 (c := 4) PySem.F.excBase_ValueError g.x_InvalidClaim rfl rfl ((toldB_ok (c := 4) g.told rfl).no "given" (by decide)) (ok_InvalidClaim___init__ g) (hr.mono (by decide)) (b_InvalidClaim___init__ g) rfl g.f_InvalidClaim (xaCons (xVar 0) xaNil) (len_cons len_nil)) (xaCons (xMkE1K (c := 4) PySem.F.excBase_ValueError g.x_InvalidClaim rfl rfl ((toldB_ok (c := 4) g.told rfl).no "given" (by decide)) (ok_InvalidClaim___init__ g) (hr.mono (by decide)) (kb_InvalidClaim___init___given g) rfl g.f_InvalidClaim (xkCons (xVar 0) xkNil) (len_cons len_nil) (perm_len (len_cons len_nil) permL_1)) xaNil))) (xaCons (xTup (xaCons (xMkE1 (c := 5) PySem.F.excBase_ValueError g.x_InvalidCell rfl rfl ((toldB_ok (c := 5) g.told rfl).no "given" (by decide)) (ok_InvalidCell___init__ g) (hr.mono (by decide)) (b_InvalidCell___init__ g) rfl g.f_InvalidCell (xaCons (xVar 0) xaNil) (len_cons len_nil)) (xaCons (xMkE1K (c := 5) PySem.F.excBase_ValueError g.x_InvalidCell rfl rfl ((toldB_ok (c := 5) g.told rfl).no "given" (by decide)) (ok_InvalidCell___init__ g) (hr.mono (by decide)) (kb_InvalidCell___init___given g) rfl g.f_InvalidCell (xkCons (xVar 0) xkNil) (len_cons len_nil) (perm_len (len_cons len_nil) permL_1)) xaNil))) xaNil))))))
    (xsCons (xsSet (i := 1) sc_law_firsts.nd rfl (.inl rfl) (xOp ot_add oAdd (xVar 1) (xL (xLst (xaCons (xTup (xaCons (xMkE1 (c := 6) PySem.F.excBase_ValueError g.x_InvalidMover rfl rfl ((toldB_ok (c := 6) g.told rfl).no "given" (by decide)) (ok_InvalidMover___init__ g) (hr.mono (by decide)) (b_InvalidMover___init__ g) rfl g.f_InvalidMover (xaCons (xVar 0) xaNil) (len_cons len_nil)) (xaCons (xMkE1K (c := 6) PySem.F.excBase_ValueError g.x_InvalidMover rfl rfl ((toldB_ok (c := 6) g.told rfl).no "given" (by decide)) (ok_InvalidMover___init__ g) (hr.mono (by decide)) (kb_InvalidMover___init___given g) rfl g.f_InvalidMover (xkCons (xVar 0) xkNil) (len_cons len_nil) (perm_len (len_cons len_nil) permL_1)) xaNil))) (xaCons (xTup (xaCons (xMkE1 (c := 7) PySem.F.excBase_ValueError g.x_UnknownName rfl rfl ((toldB_ok (c := 7) g.told rfl).no "given" (by decide)) (ok_UnknownName___init__ g) (hr.mono (by decide)) (b_UnknownName___init__ g) rfl g.f_UnknownName (xaCons (xVar 0) xaNil) (len_cons len_nil)) (xaCons (xMkE1K (c := 7) PySem.F.excBase_ValueError g.x_UnknownName rfl rfl ((toldB_ok (c := 7) g.told rfl).no "given" (by decide)) (ok_UnknownName___init__ g) (hr.mono (by decide)) (kb_UnknownName___init___given g) rfl g.f_UnknownName (xkCons (xVar 0) xkNil) (len_cons len_nil) (perm_len (len_cons len_nil) permL_1)) xaNil))) xaNil))))))
    (xsCons (xsSet (i := 1) sc_law_firsts.nd rfl (.inl rfl) (xOp ot_add oAdd (xVar 1) (xL (xLst (xaCons (xTup (xaCons (xMkE1 (c := 8) PySem.F.excBase_ValueError g.x_NotABoard rfl rfl ((toldB_ok (c := 8) g.told rfl).no "given" (by decide)) (ok_NotABoard___init__ g) (hr.mono (by decide)) (b_NotABoard___init__ g) rfl g.f_NotABoard (xaCons (xVar 0) xaNil) (len_cons len_nil)) (xaCons (xMkE1K (c := 8) PySem.F.excBase_ValueError g.x_NotABoard rfl rfl ((toldB_ok (c := 8) g.told rfl).no "given" (by decide)) (ok_NotABoard___init__ g) (hr.mono (by decide)) (kb_NotABoard___init___given g) rfl g.f_NotABoard (xkCons (xVar 0) xkNil) (len_cons len_nil) (perm_len (len_cons len_nil) permL_1)) xaNil))) (xaCons (xTup (xaCons (xMkE1 (c := 9) PySem.F.excBase_ValueError g.x_NotAStand rfl rfl ((toldB_ok (c := 9) g.told rfl).no "given" (by decide)) (ok_NotAStand___init__ g) (hr.mono (by decide)) (b_NotAStand___init__ g) rfl g.f_NotAStand (xaCons (xVar 0) xaNil) (len_cons len_nil)) (xaCons (xMkE1K (c := 9) PySem.F.excBase_ValueError g.x_NotAStand rfl rfl ((toldB_ok (c := 9) g.told rfl).no "given" (by decide)) (ok_NotAStand___init__ g) (hr.mono (by decide)) (kb_NotAStand___init___given g) rfl g.f_NotAStand (xkCons (xVar 0) xkNil) (len_cons len_nil) (perm_len (len_cons len_nil) permL_1)) xaNil))) xaNil))))))
    (xsCons (xsSet (i := 1) sc_law_firsts.nd rfl (.inl rfl) (xOp ot_add oAdd (xVar 1) (xL (xLst (xaCons (xTup (xaCons (xMkE1 (c := 10) PySem.F.excBase_ValueError g.x_NotAPattern rfl rfl ((toldB_ok (c := 10) g.told rfl).no "given" (by decide)) (ok_NotAPattern___init__ g) (hr.mono (by decide)) (b_NotAPattern___init__ g) rfl g.f_NotAPattern (xaCons (xVar 0) xaNil) (len_cons len_nil)) (xaCons (xMkE1K (c := 10) PySem.F.excBase_ValueError g.x_NotAPattern rfl rfl ((toldB_ok (c := 10) g.told rfl).no "given" (by decide)) (ok_NotAPattern___init__ g) (hr.mono (by decide)) (kb_NotAPattern___init___given g) rfl g.f_NotAPattern (xkCons (xVar 0) xkNil) (len_cons len_nil) (perm_len (len_cons len_nil) permL_1)) xaNil))) (xaCons (xTup (xaCons (xMkE1 (c := 11) PySem.F.excBase_ValueError g.x_NotAMatch rfl rfl ((toldB_ok (c := 11) g.told rfl).no "given" (by decide)) (ok_NotAMatch___init__ g) (hr.mono (by decide)) (b_NotAMatch___init__ g) rfl g.f_NotAMatch (xaCons (xVar 0) xaNil) (len_cons len_nil)) (xaCons (xMkE1K (c := 11) PySem.F.excBase_ValueError g.x_NotAMatch rfl rfl ((toldB_ok (c := 11) g.told rfl).no "given" (by decide)) (ok_NotAMatch___init__ g) (hr.mono (by decide)) (kb_NotAMatch___init___given g) rfl g.f_NotAMatch (xkCons (xVar 0) xkNil) (len_cons len_nil) (perm_len (len_cons len_nil) permL_1)) xaNil))) xaNil))))))
    (xsOne (xsRet (xOp ot_add oAdd (xVar 1) (xL (xLst (xaCons (xTup (xaCons (xMkE1 (c := 12) PySem.F.excBase_ValueError g.x_InvalidCells rfl rfl ((toldB_ok (c := 12) g.told rfl).no "index" (by decide)) (ok_InvalidCells___init__ g) (hr.mono (by decide)) (b_InvalidCells___init__ g) rfl g.f_InvalidCells (xaCons (xVar 0) xaNil) (len_cons len_nil)) (xaCons (xMkE1K (c := 12) PySem.F.excBase_ValueError g.x_InvalidCells rfl rfl ((toldB_ok (c := 12) g.told rfl).no "index" (by decide)) (ok_InvalidCells___init__ g) (hr.mono (by decide)) (kb_InvalidCells___init___index g) rfl g.f_InvalidCells (xkCons (xVar 0) xkNil) (len_cons len_nil) (perm_len (len_cons len_nil) permL_1)) xaNil))) (xaCons (xTup (xaCons (xMkE1 (c := 13) PySem.F.excBase_ValueError g.x_InvalidPairs rfl rfl ((toldB_ok (c := 13) g.told rfl).no "index" (by decide)) (ok_InvalidPairs___init__ g) (hr.mono (by decide)) (b_InvalidPairs___init__ g) rfl g.f_InvalidPairs (xaCons (xVar 0) xaNil) (len_cons len_nil)) (xaCons (xMkE1K (c := 13) PySem.F.excBase_ValueError g.x_InvalidPairs rfl rfl ((toldB_ok (c := 13) g.told rfl).no "index" (by decide)) (ok_InvalidPairs___init__ g) (hr.mono (by decide)) (kb_InvalidPairs___init___index g) rfl g.f_InvalidPairs (xkCons (xVar 0) xkNil) (len_cons len_nil) (perm_len (len_cons len_nil) permL_1)) xaNil))) xaNil)))))))))))))
theorem sc_law_flags : FnScope ["_law_e", "_law_found"] ["_law_e"] (defScope (top 35)) := ⟨rfl, rfl, rfl, by decide +kernel, rfl, by decide +kernel, by decide +kernel⟩
theorem b_law_flags (g : Gs w K mg) : Binds K (fdOf K (He.ga K "_law_flags")) ["_law_e"] [] := g.F_law_flags.bindsN fun _ _ _ _ _ _ us hl => match us, hl with | [_], _ => rfl
theorem ok_law_flags (g : Gs w K mg) : FnOk P w K mg base CX0 1 (He.ga K "_law_flags") (fdOf K (He.ga K "_law_flags")) ["_law_e"] (spM (wd w K) m_law_flags) :=
  fnM g.F_law_flags sc_law_flags 2 1 rfl rfl fun cdv A outer s H E hr =>
    (xsCons (xsSet (i := 1) sc_law_flags.nd rfl (.inl rfl) (xL (xLst (xaCons (xIsK (tab := fun c => some (c == 0)) rfl g.told (.own _) (fun _ _ _ hD hb => Option.some.inj hb ▸ (toldB_ok g.told hD).is 0 _ rfl) (xVar 0) (pe_glob rfl g.f_InvalidText rfl) rfl g.b_isinstance) (xaCons (xIsK (tab := fun c => some (c == 1)) rfl g.told (.own _) (fun _ _ _ hD hb => Option.some.inj hb ▸ (toldB_ok g.told hD).is 1 _ rfl) (xVar 0) (pe_glob rfl g.f_InvalidNumber rfl) rfl g.b_isinstance) (xaCons (xIsK (tab := fun c => some (c == 2)) rfl g.told (.own _) (fun _ _ _ hD hb => Option.some.inj hb ▸ (toldB_ok g.told hD).is 2 _ rfl) (xVar 0) (pe_glob rfl g.f_InvalidName rfl) rfl g.b_isinstance) xaNil))))))
    (xsCons (xsSet (i := 1) sc_law_flags.nd rfl (.inl rfl) (xOp ot_add oAdd (xVar 1) (xL (xLst (xaCons (xIsK (tab := fun c => some (c == 3)) rfl g.told (.own _) (fun _ _ _ hD hb => Option.some.inj hb ▸ (toldB_ok g.told hD).is 3 _ rfl) (xVar 0) (pe_glob rfl g.f_InvalidIndex rfl) rfl g.b_isinstance) (xaCons (xIsK (tab := fun c => some (c == 4)) rfl g.told (.own _) (fun _ _ _ hD hb => Option.some.inj hb ▸ (toldB_ok g.told hD).is 4 _ rfl) (xVar 0) (pe_glob rfl g.f_InvalidClaim rfl) rfl g.b_isinstance) (xaCons (xIsK (tab := fun c => some (c == 5)) rfl g.told (.own _) (fun _ _ _ hD hb => Option.some.inj hb ▸ (toldB_ok g.told hD).is 5 _ rfl) (xVar 0) (pe_glob rfl g.f_InvalidCell rfl) rfl g.b_isinstance) xaNil)))))))
    (xsCons (xsSet (i := 1) sc_law_flags.nd rfl (.inl rfl) (xOp ot_add oAdd (xVar 1) (xL (xLst (xaCons (xIsK (tab := fun c => some (c == 6)) rfl g.told (.own _) (fun _ _ _ hD hb => Option.some.inj hb ▸ (toldB_ok g.told hD).is 6 _ rfl) (xVar 0) (pe_glob rfl g.f_InvalidMover rfl) rfl g.b_isinstance) (xaCons (xIsK (tab := fun c => some (c == 7)) rfl g.told (.own _) (fun _ _ _ hD hb => Option.some.inj hb ▸ (toldB_ok g.told hD).is 7 _ rfl) (xVar 0) (pe_glob rfl g.f_UnknownName rfl) rfl g.b_isinstance) (xaCons (xIsK (tab := fun c => some (c == 8)) rfl g.told (.own _) (fun _ _ _ hD hb => Option.some.inj hb ▸ (toldB_ok g.told hD).is 8 _ rfl) (xVar 0) (pe_glob rfl g.f_NotABoard rfl) rfl g.b_isinstance) xaNil)))))))
    (xsCons (xsSet (i := 1) sc_law_flags.nd rfl (.inl rfl) (xOp ot_add oAdd (xVar 1) (xL (xLst (xaCons (xIsK (tab := fun c => some (c == 9)) rfl g.told (.own _) (fun _ _ _ hD hb => Option.some.inj hb ▸ (toldB_ok g.told hD).is 9 _ rfl) (xVar 0) (pe_glob rfl g.f_NotAStand rfl) rfl g.b_isinstance) (xaCons (xIsK (tab := fun c => some (c == 10)) rfl g.told (.own _) (fun _ _ _ hD hb => Option.some.inj hb ▸ (toldB_ok g.told hD).is 10 _ rfl) (xVar 0) (pe_glob rfl g.f_NotAPattern rfl) rfl g.b_isinstance) (xaCons (xIsK (tab := fun c => some (c == 11)) rfl g.told (.own _) (fun _ _ _ hD hb => Option.some.inj hb ▸ (toldB_ok g.told hD).is 11 _ rfl) (xVar 0) (pe_glob rfl g.f_NotAMatch rfl) rfl g.b_isinstance) xaNil)))))))
    (xsCons (xsSet (i := 1) sc_law_flags.nd rfl (.inl rfl) (xOp ot_add oAdd (xVar 1) (xL (xLst (xaCons (xIsK (tab := fun c => some (c == 12)) rfl g.told (.own _) (fun _ _ _ hD hb => Option.some.inj hb ▸ (toldB_ok g.told hD).is 12 _ rfl) (xVar 0) (pe_glob rfl g.f_InvalidCells rfl) rfl g.b_isinstance) (xaCons (xIsK (tab := fun c => some (c == 13)) rfl g.told (.own _) (fun _ _ _ hD hb => Option.some.inj hb ▸ (toldB_ok g.told hD).is 13 _ rfl) (xVar 0) (pe_glob rfl g.f_InvalidPairs rfl) rfl g.b_isinstance) (xaCons (xIsK (tab := fun c => some (c == 14)) rfl g.told (.own _) (fun _ _ _ hD hb => Option.some.inj hb ▸ (toldB_ok g.told hD).is 14 _ rfl) (xVar 0) (pe_glob rfl g.f_NotMutual rfl) rfl g.b_isinstance) xaNil)))))))
    (xsCons (xsSet (i := 1) sc_law_flags.nd rfl (.inl rfl) (xOp ot_add oAdd (xVar 1) (xL (xLst (xaCons (xIsK (tab := fun c => some (c == 15)) rfl g.told (.own _) (fun _ _ _ hD hb => Option.some.inj hb ▸ (toldB_ok g.told hD).is 15 _ rfl) (xVar 0) (pe_glob rfl g.f_TooMany rfl) rfl g.b_isinstance) (xaCons (xIsK (tab := fun c => some (c == 16)) rfl g.told (.own _) (fun _ _ _ hD hb => Option.some.inj hb ▸ (toldB_ok g.told hD).is 16 _ rfl) (xVar 0) (pe_glob rfl g.f_IsOver rfl) rfl g.b_isinstance) (xaCons (xIsK (tab := fun c => some (c == 17)) rfl g.told (.own _) (fun _ _ _ hD hb => Option.some.inj hb ▸ (toldB_ok g.told hD).is 17 _ rfl) (xVar 0) (pe_glob rfl g.f_Broken rfl) rfl g.b_isinstance) xaNil)))))))
    (xsOne (xsRet (xOp ot_add oAdd (xVar 1) (xL (xLst (xaCons (xIsK (tab := fun c => some (c == 18)) rfl g.told (.own _) (fun _ _ _ hD hb => Option.some.inj hb ▸ (toldB_ok g.told hD).is 18 _ rfl) (xVar 0) (pe_glob rfl g.f_InUse rfl) rfl g.b_isinstance) (xaCons (xIsK (tab := fun c => some (c == 19)) rfl g.told (.own _) (fun _ _ _ hD hb => Option.some.inj hb ▸ (toldB_ok g.told hD).is 19 _ rfl) (xVar 0) (pe_glob rfl g.f_NothingToUndo rfl) rfl g.b_isinstance) xaNil)))))))))))))
theorem sc_law_seconds : FnScope ["_law_x", "_law_found"] ["_law_x"] (defScope (top 34)) := ⟨rfl, rfl, rfl, by decide +kernel, rfl, by decide +kernel, by decide +kernel⟩
theorem b_law_seconds (g : Gs w K mg) : Binds K (fdOf K (He.ga K "_law_seconds")) ["_law_x"] [] := g.F_law_seconds.bindsN fun _ _ _ _ _ _ us hl => match us, hl with | [_], _ => rfl
theorem ok_law_seconds (g : Gs w K mg) : FnOk P w K mg base CX0 3 (He.ga K "_law_seconds") (fdOf K (He.ga K "_law_seconds")) ["_law_x"] (spM (wd w K) m_law_seconds) :=
  fnM g.F_law_seconds sc_law_seconds 2 1 rfl rfl fun cdv A outer s H E hr =>
    (xsCons (xsSet (i := 1) sc_law_seconds.nd rfl (.inl rfl) (xL (xLst (xaCons (xTup (xaCons (xMkE1 (c := 14) PySem.F.excBase_ArithmeticError g.x_NotMutual rfl rfl ((toldB_ok (c := 14) g.told rfl).no "place" (by decide)) (ok_NotMutual___init__ g) (hr.mono (by decide)) (b_NotMutual___init__ g) rfl g.f_NotMutual (xaCons (xVar 0) xaNil) (len_cons len_nil)) (xaCons (xMkE1K (c := 14) PySem.F.excBase_ArithmeticError g.x_NotMutual rfl rfl ((toldB_ok (c := 14) g.told rfl).no "place" (by decide)) (ok_NotMutual___init__ g) (hr.mono (by decide)) (kb_NotMutual___init___place g) rfl g.f_NotMutual (xkCons (xVar 0) xkNil) (len_cons len_nil) (perm_len (len_cons len_nil) permL_1)) xaNil))) (xaCons (xTup (xaCons (xMkE1 (c := 15) PySem.F.excBase_ArithmeticError g.x_TooMany rfl rfl ((toldB_ok (c := 15) g.told rfl).no "number" (by decide)) (ok_TooMany___init__ g) (hr.mono (by decide)) (b_TooMany___init__ g) rfl g.f_TooMany (xaCons (xVar 0) xaNil) (len_cons len_nil)) (xaCons (xMkE1K (c := 15) PySem.F.excBase_ArithmeticError g.x_TooMany rfl rfl ((toldB_ok (c := 15) g.told rfl).no "number" (by decide)) (ok_TooMany___init__ g) (hr.mono (by decide)) (kb_TooMany___init___number g) rfl g.f_TooMany (xkCons (xVar 0) xkNil) (len_cons len_nil) (perm_len (len_cons len_nil) permL_1)) xaNil))) (xaCons (xTup (xaCons (xMkE0 (c := 16) PySem.F.excBase_ArithmeticError rfl g.x_IsOver.cls g.x_IsOver.kp rfl g.f_IsOver) (xaCons (xMkE0 (c := 16) PySem.F.excBase_ArithmeticError rfl g.x_IsOver.cls g.x_IsOver.kp rfl g.f_IsOver) xaNil))) xaNil))))))
    (xsCons (xsSet (i := 1) sc_law_seconds.nd rfl (.inl rfl) (xOp ot_add oAdd (xVar 1) (xL (xLst (xaCons (xTup (xaCons (xMkE2 (c := 17) PySem.F.excBase_ArithmeticError g.x_Broken rfl rfl ((toldB_ok (c := 17) g.told rfl).no "index" (by decide)) ((toldB_ok (c := 17) g.told rfl).no "told" (by decide)) (ok_Broken___init__ g) (hr.mono (by decide)) (b_Broken___init__ g) rfl g.f_Broken (xaCons (xVar 0) (xaCons xInt xaNil)) (len_cons (len_cons len_nil))) (xaCons (xMkE2K (c := 17) PySem.F.excBase_ArithmeticError g.x_Broken rfl rfl ((toldB_ok (c := 17) g.told rfl).no "index" (by decide)) ((toldB_ok (c := 17) g.told rfl).no "told" (by decide)) (ok_Broken___init__ g) (hr.mono (by decide)) (kb_Broken___init___told_index g) rfl g.f_Broken (xkCons xInt (xkCons (xVar 0) xkNil)) (len_cons (len_cons len_nil)) (perm_len (len_cons (len_cons len_nil)) permL_2)) xaNil))) (xaCons (xTup (xaCons (xMkE1 (c := 18) PySem.F.excBase_ArithmeticError g.x_InUse rfl rfl ((toldB_ok (c := 18) g.told rfl).no "index" (by decide)) (ok_InUse___init__ g) (hr.mono (by decide)) (b_InUse___init__ g) rfl g.f_InUse (xaCons (xVar 0) xaNil) (len_cons len_nil)) (xaCons (xMkE1K (c := 18) PySem.F.excBase_ArithmeticError g.x_InUse rfl rfl ((toldB_ok (c := 18) g.told rfl).no "index" (by decide)) (ok_InUse___init__ g) (hr.mono (by decide)) (kb_InUse___init___index g) rfl g.f_InUse (xkCons (xVar 0) xkNil) (len_cons len_nil) (perm_len (len_cons len_nil) permL_1)) xaNil))) xaNil))))))
    (xsOne (xsRet (xOp ot_add oAdd (xVar 1) (xL (xLst (xaCons (xTup (xaCons (xMkE0 (c := 19) PySem.F.excBase_ArithmeticError rfl g.x_NothingToUndo.cls g.x_NothingToUndo.kp rfl g.f_NothingToUndo) (xaCons (xMkE0 (c := 19) PySem.F.excBase_ArithmeticError rfl g.x_NothingToUndo.cls g.x_NothingToUndo.kp rfl g.f_NothingToUndo) xaNil))) xaNil))))))))
theorem sc_law_draw : FnScope ["_law_purse_here", "_law_many", "_law_digit"] ["_law_purse_here", "_law_many"] (defScope (top 31)) := ⟨rfl, rfl, rfl, by decide +kernel, rfl, by decide +kernel, by decide +kernel⟩
theorem b_law_draw (g : Gs w K mg) : Binds K (fdOf K (He.ga K "_law_draw")) ["_law_purse_here", "_law_many"] [] := g.F_law_draw.bindsN fun _ _ _ _ _ _ us hl => match us, hl with | [_, _], _ => rfl
theorem ok_law_draw (g : Gs w K mg) : FnOk P w K mg base CX0 1 (He.ga K "_law_draw") (fdOf K (He.ga K "_law_draw")) ["_law_purse_here", "_law_many"] (spM (wd w K) m_law_draw) :=
  fnM g.F_law_draw sc_law_draw 3 2 rfl rfl fun cdv A outer s H E hr =>
    (xsCons (xsIf (xtCmp ot_gt (oGt (room80 hr)) (xIx rfl (xVar 0) xInt (fun _ _ => rfl)) xInt) (xsCons (xsAsg (xCallB ct_divmod call_divmodW rfl g.b_divmod bt_divmod (xaCons (xIx rfl (xVar 0) xInt (fun _ _ => rfl)) (xaCons (xVar 1) xaNil))) (xgTup (n := 2) rfl rfl (xgsCons (xgSub st_setL (xVar 0) xInt set_list) (xgsCons (xgName (i := 2) sc_law_draw.nd rfl (.inl rfl)) xgsNil))))
    (xsOne (xsRet (xVar 2)))) xsNil)
    (xsCons (xsAsg (xOp ot_mod op_mod (xCallTy ct_int oInt rfl g.b_int bt_int (xaCons (xOp ot_add oAdd (xOp ot_mul oMul (xIx rfl (xVar 0) xInt (fun _ _ => rfl)) xInt) xInt) xaNil)) xInt) (xgSub st_setL (xVar 0) xInt set_list))
    (xsOne (xsRet (xOp ot_mod op_mod (xCallTy ct_int oInt rfl g.b_int bt_int (xaCons (xOp ot_fdv op_fdiv (xIx rfl (xVar 0) xInt (fun _ _ => rfl)) xInt) xaNil)) (xVar 1))))))
theorem sc_law_thing : FnScope ["_law_purse_here", "_law_some"] ["_law_purse_here"] (defScope (top 32)) := ⟨rfl, rfl, rfl, by decide +kernel, rfl, by decide +kernel, by decide +kernel⟩
theorem b_law_thing (g : Gs w K mg) : Binds K (fdOf K (He.ga K "_law_thing")) ["_law_purse_here"] [] := g.F_law_thing.bindsN fun _ _ _ _ _ _ us hl => match us, hl with | [_], _ => rfl
theorem ok_law_thing (g : Gs w K mg) : FnOk P w K mg base CX0 2 (He.ga K "_law_thing") (fdOf K (He.ga K "_law_thing")) ["_law_purse_here"] (spM (wd w K) m_law_thing) :=
  fnM g.F_law_thing sc_law_thing 2 1 rfl rfl fun cdv A outer s H E hr =>
    (xsCons (xsSet (i := 1) sc_law_thing.nd rfl (.inl rfl) (xL (xLst (xaCons xNon (xaCons xBl (xaCons xInt (xaCons (xNeg (xOp ot_pow op_pow xInt xInt)) (xaCons xStr (xaCons xStr (xaCons xStr (xaCons (xTup xaNil) (xaCons (xTup (xaCons xStr (xaCons (xTup (xaCons xStr (xaCons xInt xaNil))) xaNil))) (xaCons (xL (xLst xaNil)) (xaCons (xL (xLst (xaCons (xL (xLst (xaCons xStr xaNil))) xaNil))) (xaCons xDNew (xaCons (xDisp (xpCons xStr (xTup xaNil) xpNil)) xaNil))))))))))))))))
    (xsOne (xsRet (xIx rfl (xVar 1) (xCall (ok_law_draw g) (hr.mono (by decide)) rfl g.f_law_draw g.F_law_draw.kp (b_law_draw g) (xaCons (xVar 0) (xaCons xInt xaNil))) (fun _ _ => rfl)))))
theorem sc_law_right : FnScope ["_law_purse_here", "_law_x", "_law_pairs_here", "_law_others", "_law_kept", "_law_both", "_law_e", "_law_k", "_law_flags_here", "_law_is_first"] ["_law_purse_here"] (defScope (top 36)) := ⟨rfl, rfl, rfl, by decide +kernel, rfl, by decide +kernel, by decide +kernel⟩
theorem b_law_right (g : Gs w K mg) : Binds K (fdOf K (He.ga K "_law_right")) ["_law_purse_here"] [] := g.F_law_right.bindsN fun _ _ _ _ _ _ us hl => match us, hl with | [_], _ => rfl
theorem ok_law_right (g : Gs w K mg) : FnQ P w K mg base (wd w K) 4 (He.ga K "_law_right") (fdOf K (He.ga K "_law_right")) ["_law_purse_here"] m_law_right :=
  fnQ g.F_law_right sc_law_right 10 1 rfl rfl fun cdv A outer s H E hq hr =>
    (xsCons (xsSet (i := 1) sc_law_right.nd rfl (.inl rfl) (xCall (ok_law_thing g) (hr.mono (by decide)) rfl g.f_law_thing g.F_law_thing.kp (b_law_thing g) (xaCons (xVar 0) xaNil)))
    (xsCons (xsPar (i := 2) (j := 3) rfl sc_law_right.nd rfl rfl (by decide) rfl rfl (xaCons (xCall (ok_law_firsts g) (hr.mono (by decide)) rfl g.f_law_firsts g.F_law_firsts.kp (b_law_firsts g) (xaCons (xVar 1) xaNil)) (xaCons (xCall (ok_law_seconds g) (hr.mono (by decide)) rfl g.f_law_seconds g.F_law_seconds.kp (b_law_seconds g) (xaCons (xVar 1) xaNil)) xaNil)) rfl)
    (xsCons (xsSetLcL (i := 4) (own := [("_law_both", 5)]) rfl sc_law_right.nd rfl rfl rfl (xiSeq rfl (xSl rfl (xVar 2) xoNo (xoSome xInt))) (blk_of rfl rfl) (fun _ _ _ _ _ => (wgName (i := 5) (by decide) sc_law_right.nd rfl (.inl rfl))) (fun _ _ _ _ _ => xtsNil) (fun _ _ _ _ _ => (xL (xLst (xaCons (xAtE rfl g.told (by decide) (xIx rfl (xVar 5) xInt (fun _ _ => rfl))) (xaCons (xAtE rfl g.told (by decide) (xIx rfl (xVar 5) xInt (fun _ _ => rfl))) xaNil))))))
    (xsCons (xsSet (i := 4) sc_law_right.nd rfl (.inl rfl) (xOp ot_add oAdd (xVar 4) (xL (xLc (own := [("_law_both", 5)]) rfl sc_law_right.nd (xiSeq rfl (xOp ot_add oAdd (xSl rfl (xVar 2) (xoSome xInt) xoNo) (xSl rfl (xVar 3) (xoSome xInt) (xoSome xInt)))) (blk_of rfl rfl) (fun _ _ _ _ _ => (wgName (i := 5) (by decide) sc_law_right.nd rfl (.inl rfl))) (fun _ _ _ _ _ => xtsNil) (fun _ _ _ _ _ => (xL (xLst (xaCons (xAtE rfl g.told (by decide) (xIx rfl (xVar 5) xInt (fun _ _ => rfl))) (xaCons (xAtE rfl g.told (by decide) (xIx rfl (xVar 5) xInt (fun _ _ => rfl))) xaNil)))))))))
    (xsCons (xsSet (i := 4) sc_law_right.nd rfl (.inl rfl) (xOp ot_add oAdd (xVar 4) (xL (xLst (xaCons (xL (xLc (own := [("_law_e", 6)]) rfl sc_law_right.nd (xiSeq rfl (xIx rfl (xVar 3) xInt (fun _ _ => rfl))) (blk_of rfl rfl) (fun _ _ _ _ _ => (wgName (i := 6) (by decide) sc_law_right.nd rfl (.inl rfl))) (fun _ _ _ _ _ => xtsNil) (fun _ _ _ _ _ => (xAtE rfl g.told (by decide) (xVar 6))))) (xaCons (xL (xLc (own := [("_law_e", 6)]) rfl sc_law_right.nd (xiSeq rfl (xIx rfl (xVar 3) xInt (fun _ _ => rfl))) (blk_of rfl rfl) (fun _ _ _ _ _ => (wgName (i := 6) (by decide) sc_law_right.nd rfl (.inl rfl))) (fun _ _ _ _ _ => xtsNil) (fun _ _ _ _ _ => (xAtE rfl g.told (by decide) (xVar 6))))) xaNil))))))
    (xsCons (xsIf (xtW (xwOr (xtCmp ot_ne (op_neP (room80 hr)) (xCallB ct_reprK (cr_reprK hq (room80 hr)) rfl g.b_repr bt_repr (xaCons (xVar 4) xaNil)) (xCallB ct_reprK (cr_reprK hq (room80 hr)) rfl g.b_repr bt_repr (xaCons (xL (xMulF (xL (xLst (xaCons (xL (xLst (xaCons (xVar 1) (xaCons (xVar 1) xaNil)))) xaNil))) xInt)) xaNil))) (xwOr1 (xtCmp ot_ne (op_neP (room80 hr)) (xL (xLc (own := [("_law_e", 6)]) rfl sc_law_right.nd (xiSeq rfl (xIx rfl (xVar 3) xInt (fun _ _ => rfl))) (blk_of rfl rfl) (fun _ _ _ _ _ => (wgName (i := 6) (by decide) sc_law_right.nd rfl (.inl rfl))) (fun _ _ _ _ _ => xtsNil) (fun _ _ _ _ _ => (xAtE rfl g.told (by decide) (xVar 6))))) (xL (xLst (xaCons xInt (xaCons xInt xaNil)))))))) (xsOne (xsRet xBl)) xsNil)
    (xsCons (xsFor (fun _ _ z => z.elim) rfl (xiEnum rfl rfl g.b_enumerate (xaCons (xOp ot_add oAdd (xVar 2) (xVar 3)) xaNil)) (xgTup (n := 2) rfl rfl (xgsCons (xgName (i := 7) sc_law_right.nd rfl (.inl rfl)) (xgsCons (xgName (i := 5) sc_law_right.nd rfl (.inl rfl)) xgsNil))) (xsOne (xsFor (fun _ _ z => z.elim) rfl (xiSeq rfl (xVar 5)) (xgName (i := 6) sc_law_right.nd rfl (.inl rfl)) (xsCons (xsPar (i := 8) (j := 9) rfl sc_law_right.nd rfl rfl (by decide) rfl rfl (xaCons (xCall (ok_law_flags g) (hr.mono (by decide)) rfl g.f_law_flags g.F_law_flags.kp (b_law_flags g) (xaCons (xVar 6) xaNil)) (xaCons (xCmp ot_lt (oLt (room80 hr)) (xVar 7) xInt) xaNil)) rfl)
    (xsCons (xsIf (xtW (xwOr (xtCmp ot_ne (op_neP (room80 hr)) (xMt mt_countB' rfl F.plainAttrs_list F.slot_list_count F.type_list_count (mt_countB (room65 hr)) (xVar 8) (xaCons xBl xaNil)) xInt) (xwOr1 (xtNot (xtVal (xIx rfl (xVar 8) (xVar 7) (fun _ _ => rfl))))))) (xsOne (xsRet xBl)) xsNil)
    (xsCons (xsIf (xtCmp ot_ne (op_neP (room80 hr)) (xL (xLst (xaCons (xIsK (tab := fun c => some (decide (c < 14))) rfl g.told (.own _) (fun _ _ _ hD hb => Option.some.inj hb ▸ (toldB_ok g.told hD).wv) (xVar 6) (pe_glob rfl g.f_WrongValue rfl) rfl g.b_isinstance) (xaCons (xIsK (tab := fun c => some (!decide (c < 14))) rfl g.told (.own _) (fun _ _ _ hD hb => Option.some.inj hb ▸ (toldB_ok g.told hD).na) (xVar 6) (pe_glob rfl g.f_NoAnswer rfl) rfl g.b_isinstance) xaNil)))) (xL (xLst (xaCons (xVar 9) (xaCons (xNot (xVar 9)) xaNil))))) (xsOne (xsRet xBl)) xsNil)
    (xsOne (xsIf (xtCmp ot_ne (op_neP (room80 hr)) (xL (xLst (xaCons (xIsK (tab := fun c => some (decide (c < 14))) rfl g.told (.ty _) (isTyB_ok g.ty_ValueError) (xVar 6) (pe_bltn rfl g.b_ValueError bt_ValueError rfl) rfl g.b_isinstance) (xaCons (xIsK (tab := fun c => some (!decide (c < 14))) rfl g.told (.ty _) (isTyB_ok g.ty_ArithmeticError) (xVar 6) (pe_bltn rfl g.b_ArithmeticError bt_ArithmeticError rfl) rfl g.b_isinstance) xaNil)))) (xL (xLst (xaCons (xVar 9) (xaCons (xNot (xVar 9)) xaNil))))) (xsOne (xsRet xBl)) xsNil))))))))
    (xsOne (xsRet xBl)))))))))
theorem sc_law : FnScope ["_law_script", "_law_limits_here", "_law_spot"] ["_law_script"] (defScope (top 37)) := ⟨rfl, rfl, rfl, by decide +kernel, rfl, by decide +kernel, by decide +kernel⟩
theorem ok_law (g : Gs w K mg) : FnQ P w K mg base (wd w K) 5 (He.ga K "law") (fdOf K (He.ga K "law")) ["_law_script"] m_law :=
  fnQ g.F_law sc_law 3 1 rfl rfl fun cdv A outer s H E hq hr =>
    (xsCons (xsSet (i := 1) sc_law.nd rfl (.inl rfl) (xL (xLst (xaCons (xGInt rfl g.c_MOST_CELLS) (xaCons (xGInt rfl g.c_MOST_LINES) (xaCons (xGInt rfl g.c_MOST_FREE) (xaCons (xGInt rfl g.c_MOST_PAIRED) (xaCons (xGInt rfl g.c_MOST_FORCED) (xaCons (xGInt rfl g.c_MOST_SIDE) xaNil)))))))))
    (xsCons (xsIf (xtCmp ot_ne (op_neP (room80 hr)) (xVar 1) (xL (xLst (xaCons xInt (xaCons xInt (xaCons xInt (xaCons xInt (xaCons xInt (xaCons xInt xaNil))))))))) (xsOne (xsRet xBl)) xsNil)
    (xsOne (xsRet (xCallB ct_all (cr_all rfl) rfl g.b_all bt_all (xaCons (xL (xLc (own := [("_law_spot", 2)]) rfl sc_law.nd (xiRange1 rfl g.b_range (xaCons (xCallB ct_max2 (call_max2 rfl) rfl g.b_max bt_max (xaCons xInt (xaCons (xCallB ct_min2 (call_min2 rfl) rfl g.b_min bt_min (xaCons (xCallB ct_len call_len rfl g.b_len bt_len (xaCons (xVar 0) xaNil)) (xaCons xInt xaNil))) xaNil))) xaNil)) (blk_of rfl rfl) (fun _ _ _ _ _ => (wgName (i := 2) (by decide) sc_law.nd rfl (.inl rfl))) (fun _ _ _ _ _ => xtsNil) (fun _ _ _ _ _ => (xCallQ (ok_law_right g) hq (hr.mono (by decide)) rfl g.f_law_right g.F_law_right.kp (b_law_right g) (xaCons (xCall (ok_law_purse g) (hr.mono (by decide)) rfl g.f_law_purse g.F_law_purse.kp (b_law_purse g) (xaCons (xVar 0) (xaCons (xVar 2) xaNil))) xaNil))))) xaNil))))))
end
end K01
namespace K01
open K33
open K21
open K13
open PySem PySem.Spec PyProof.Rows L2 TL
theorem gs {w : World} {K : PySem.W.Frag} {h : Heap} {mg : Str → Option Value} (X : K.In h) (G : h.Ns mainGlobals mg) (c : He.SaysX fa fn ts [] ex w h K) : Gs w K mg := by
  have cd := c.t.d
  have e_told : (toldB K) = true := List.all_eq_true.mp c.more _ (List.mem_of_getElem? (i := 0) rfl)
  have e_ty_ArithmeticError : (isTyB K "ArithmeticError" (fun c => !decide (c < 14))) = true := List.all_eq_true.mp c.more _ (List.mem_of_getElem? (i := 1) rfl)
  have e_ty_ValueError : (isTyB K "ValueError" (fun c => decide (c < 14))) = true := List.all_eq_true.mp c.more _ (List.mem_of_getElem? (i := 2) rfl)
  have e_x_Broken : (exEB K aeM aeN "Broken") = true := List.all_eq_true.mp c.more _ (List.mem_of_getElem? (i := 3) rfl)
  have e_x_InUse : (exEB K aeM aeN "InUse") = true := List.all_eq_true.mp c.more _ (List.mem_of_getElem? (i := 4) rfl)
  have e_x_InvalidCell : (exEB K veM veN "InvalidCell") = true := List.all_eq_true.mp c.more _ (List.mem_of_getElem? (i := 5) rfl)
  have e_x_InvalidCells : (exEB K veM veN "InvalidCells") = true := List.all_eq_true.mp c.more _ (List.mem_of_getElem? (i := 6) rfl)
  have e_x_InvalidClaim : (exEB K veM veN "InvalidClaim") = true := List.all_eq_true.mp c.more _ (List.mem_of_getElem? (i := 7) rfl)
  have e_x_InvalidIndex : (exEB K veM veN "InvalidIndex") = true := List.all_eq_true.mp c.more _ (List.mem_of_getElem? (i := 8) rfl)
  have e_x_InvalidMover : (exEB K veM veN "InvalidMover") = true := List.all_eq_true.mp c.more _ (List.mem_of_getElem? (i := 9) rfl)
  have e_x_InvalidName : (exEB K veM veN "InvalidName") = true := List.all_eq_true.mp c.more _ (List.mem_of_getElem? (i := 10) rfl)
  have e_x_InvalidNumber : (exEB K veM veN "InvalidNumber") = true := List.all_eq_true.mp c.more _ (List.mem_of_getElem? (i := 11) rfl)
  have e_x_InvalidPairs : (exEB K veM veN "InvalidPairs") = true := List.all_eq_true.mp c.more _ (List.mem_of_getElem? (i := 12) rfl)
  have e_x_InvalidText : (exEB K veM veN "InvalidText") = true := List.all_eq_true.mp c.more _ (List.mem_of_getElem? (i := 13) rfl)
  have e_x_IsOver : (exNB K "IsOver") = true := List.all_eq_true.mp c.more _ (List.mem_of_getElem? (i := 14) rfl)
  have e_x_NotABoard : (exEB K veM veN "NotABoard") = true := List.all_eq_true.mp c.more _ (List.mem_of_getElem? (i := 15) rfl)
  have e_x_NotAMatch : (exEB K veM veN "NotAMatch") = true := List.all_eq_true.mp c.more _ (List.mem_of_getElem? (i := 16) rfl)
  have e_x_NotAPattern : (exEB K veM veN "NotAPattern") = true := List.all_eq_true.mp c.more _ (List.mem_of_getElem? (i := 17) rfl)
  have e_x_NotAStand : (exEB K veM veN "NotAStand") = true := List.all_eq_true.mp c.more _ (List.mem_of_getElem? (i := 18) rfl)
  have e_x_NotMutual : (exEB K aeM aeN "NotMutual") = true := List.all_eq_true.mp c.more _ (List.mem_of_getElem? (i := 19) rfl)
  have e_x_NothingToUndo : (exNB K "NothingToUndo") = true := List.all_eq_true.mp c.more _ (List.mem_of_getElem? (i := 20) rfl)
  have e_x_TooMany : (exEB K aeM aeN "TooMany") = true := List.all_eq_true.mp c.more _ (List.mem_of_getElem? (i := 21) rfl)
  have e_x_UnknownName : (exEB K veM veN "UnknownName") = true := List.all_eq_true.mp c.more _ (List.mem_of_getElem? (i := 22) rfl)
  exact {
    b_ArithmeticError := He.free_ok X G (cd.fact 0 (f := .free "ArithmeticError") rfl)
    b_ValueError := He.free_ok X G (cd.fact 1 (f := .free "ValueError") rfl)
    b_abs := He.free_ok X G (cd.fact 2 (f := .free "abs") rfl)
    b_all := He.free_ok X G (cd.fact 3 (f := .free "all") rfl)
    b_divmod := He.free_ok X G (cd.fact 4 (f := .free "divmod") rfl)
    b_enumerate := He.free_ok X G (cd.fact 5 (f := .free "enumerate") rfl)
    b_int := He.free_ok X G (cd.fact 6 (f := .free "int") rfl)
    b_isinstance := He.free_ok X G (cd.fact 7 (f := .free "isinstance") rfl)
    b_len := He.free_ok X G (cd.fact 8 (f := .free "len") rfl)
    b_max := He.free_ok X G (cd.fact 9 (f := .free "max") rfl)
    b_min := He.free_ok X G (cd.fact 10 (f := .free "min") rfl)
    b_range := He.free_ok X G (cd.fact 11 (f := .free "range") rfl)
    b_repr := He.free_ok X G (cd.fact 12 (f := .free "repr") rfl)
    f_law_purse := He.glo_ok X G (cd.fact 13 (f := .glo "_law_purse") rfl)
    F_law_purse := let ⟨_, z⟩ := cd.def_ 0 (d := d_law_purse) rfl; funD_at z
    f_law_firsts := He.glo_ok X G (cd.fact 14 (f := .glo "_law_firsts") rfl)
    F_law_firsts := let ⟨_, z⟩ := cd.def_ 1 (d := d_law_firsts) rfl; funD_at z
    f_law_flags := He.glo_ok X G (cd.fact 15 (f := .glo "_law_flags") rfl)
    F_law_flags := let ⟨_, z⟩ := cd.def_ 2 (d := d_law_flags) rfl; funD_at z
    f_law_seconds := He.glo_ok X G (cd.fact 16 (f := .glo "_law_seconds") rfl)
    F_law_seconds := let ⟨_, z⟩ := cd.def_ 3 (d := d_law_seconds) rfl; funD_at z
    f_law_draw := He.glo_ok X G (cd.fact 17 (f := .glo "_law_draw") rfl)
    F_law_draw := let ⟨_, z⟩ := cd.def_ 4 (d := d_law_draw) rfl; funD_at z
    f_law_thing := He.glo_ok X G (cd.fact 18 (f := .glo "_law_thing") rfl)
    F_law_thing := let ⟨_, z⟩ := cd.def_ 5 (d := d_law_thing) rfl; funD_at z
    f_law_right := He.glo_ok X G (cd.fact 19 (f := .glo "_law_right") rfl)
    F_law_right := let ⟨_, z⟩ := cd.def_ 6 (d := d_law_right) rfl; funD_at z
    f_law := He.glo_ok X G (cd.fact 20 (f := .glo "law") rfl)
    F_law := let ⟨_, z⟩ := cd.def_ 7 (d := d_law) rfl; funD_at z
    F_Broken___init__ := let ⟨_, z⟩ := cd.def_ 8 (d := d_Broken___init__) rfl; funD_at z
    F_InUse___init__ := let ⟨_, z⟩ := cd.def_ 9 (d := d_InUse___init__) rfl; funD_at z
    F_InvalidCell___init__ := let ⟨_, z⟩ := cd.def_ 10 (d := d_InvalidCell___init__) rfl; funD_at z
    F_InvalidCells___init__ := let ⟨_, z⟩ := cd.def_ 11 (d := d_InvalidCells___init__) rfl; funD_at z
    F_InvalidClaim___init__ := let ⟨_, z⟩ := cd.def_ 12 (d := d_InvalidClaim___init__) rfl; funD_at z
    F_InvalidIndex___init__ := let ⟨_, z⟩ := cd.def_ 13 (d := d_InvalidIndex___init__) rfl; funD_at z
    F_InvalidMover___init__ := let ⟨_, z⟩ := cd.def_ 14 (d := d_InvalidMover___init__) rfl; funD_at z
    F_InvalidName___init__ := let ⟨_, z⟩ := cd.def_ 15 (d := d_InvalidName___init__) rfl; funD_at z
    F_InvalidNumber___init__ := let ⟨_, z⟩ := cd.def_ 16 (d := d_InvalidNumber___init__) rfl; funD_at z
    F_InvalidPairs___init__ := let ⟨_, z⟩ := cd.def_ 17 (d := d_InvalidPairs___init__) rfl; funD_at z
    F_InvalidText___init__ := let ⟨_, z⟩ := cd.def_ 18 (d := d_InvalidText___init__) rfl; funD_at z
    F_NotABoard___init__ := let ⟨_, z⟩ := cd.def_ 19 (d := d_NotABoard___init__) rfl; funD_at z
    F_NotAMatch___init__ := let ⟨_, z⟩ := cd.def_ 20 (d := d_NotAMatch___init__) rfl; funD_at z
    F_NotAPattern___init__ := let ⟨_, z⟩ := cd.def_ 21 (d := d_NotAPattern___init__) rfl; funD_at z
    F_NotAStand___init__ := let ⟨_, z⟩ := cd.def_ 22 (d := d_NotAStand___init__) rfl; funD_at z
    F_NotMutual___init__ := let ⟨_, z⟩ := cd.def_ 23 (d := d_NotMutual___init__) rfl; funD_at z
    F_TooMany___init__ := let ⟨_, z⟩ := cd.def_ 24 (d := d_TooMany___init__) rfl; funD_at z
    F_UnknownName___init__ := let ⟨_, z⟩ := cd.def_ 25 (d := d_UnknownName___init__) rfl; funD_at z
    ok := wd_ok (fun q hq => by
      simp only [cl, List.mem_cons, List.not_mem_nil, or_false] at hq
      skip)
    told := e_told
    ty_ArithmeticError := e_ty_ArithmeticError
    ty_ValueError := e_ty_ValueError
    f_NoAnswer := He.glo_ok X G (cd.fact 33 (f := .glo "NoAnswer") rfl)
    f_WrongValue := He.glo_ok X G (cd.fact 42 (f := .glo "WrongValue") rfl)
    f_Broken := He.glo_ok X G (cd.fact 21 (f := .glo "Broken") rfl)
    x_Broken := exEB_ok e_x_Broken
    f_InUse := He.glo_ok X G (cd.fact 22 (f := .glo "InUse") rfl)
    x_InUse := exEB_ok e_x_InUse
    f_InvalidCell := He.glo_ok X G (cd.fact 23 (f := .glo "InvalidCell") rfl)
    x_InvalidCell := exEB_ok e_x_InvalidCell
    f_InvalidCells := He.glo_ok X G (cd.fact 24 (f := .glo "InvalidCells") rfl)
    x_InvalidCells := exEB_ok e_x_InvalidCells
    f_InvalidClaim := He.glo_ok X G (cd.fact 25 (f := .glo "InvalidClaim") rfl)
    x_InvalidClaim := exEB_ok e_x_InvalidClaim
    f_InvalidIndex := He.glo_ok X G (cd.fact 26 (f := .glo "InvalidIndex") rfl)
    x_InvalidIndex := exEB_ok e_x_InvalidIndex
    f_InvalidMover := He.glo_ok X G (cd.fact 27 (f := .glo "InvalidMover") rfl)
    x_InvalidMover := exEB_ok e_x_InvalidMover
    f_InvalidName := He.glo_ok X G (cd.fact 28 (f := .glo "InvalidName") rfl)
    x_InvalidName := exEB_ok e_x_InvalidName
    f_InvalidNumber := He.glo_ok X G (cd.fact 29 (f := .glo "InvalidNumber") rfl)
    x_InvalidNumber := exEB_ok e_x_InvalidNumber
    f_InvalidPairs := He.glo_ok X G (cd.fact 30 (f := .glo "InvalidPairs") rfl)
    x_InvalidPairs := exEB_ok e_x_InvalidPairs
    f_InvalidText := He.glo_ok X G (cd.fact 31 (f := .glo "InvalidText") rfl)
    x_InvalidText := exEB_ok e_x_InvalidText
    f_IsOver := He.glo_ok X G (cd.fact 32 (f := .glo "IsOver") rfl)
    x_IsOver := exNB_ok e_x_IsOver
    f_NotABoard := He.glo_ok X G (cd.fact 34 (f := .glo "NotABoard") rfl)
    x_NotABoard := exEB_ok e_x_NotABoard
    f_NotAMatch := He.glo_ok X G (cd.fact 35 (f := .glo "NotAMatch") rfl)
    x_NotAMatch := exEB_ok e_x_NotAMatch
    f_NotAPattern := He.glo_ok X G (cd.fact 36 (f := .glo "NotAPattern") rfl)
    x_NotAPattern := exEB_ok e_x_NotAPattern
    f_NotAStand := He.glo_ok X G (cd.fact 37 (f := .glo "NotAStand") rfl)
    x_NotAStand := exEB_ok e_x_NotAStand
    f_NotMutual := He.glo_ok X G (cd.fact 38 (f := .glo "NotMutual") rfl)
    x_NotMutual := exEB_ok e_x_NotMutual
    f_NothingToUndo := He.glo_ok X G (cd.fact 39 (f := .glo "NothingToUndo") rfl)
    x_NothingToUndo := exNB_ok e_x_NothingToUndo
    f_TooMany := He.glo_ok X G (cd.fact 40 (f := .glo "TooMany") rfl)
    x_TooMany := exEB_ok e_x_TooMany
    f_UnknownName := He.glo_ok X G (cd.fact 41 (f := .glo "UnknownName") rfl)
    x_UnknownName := exEB_ok e_x_UnknownName
    c_MOST_CELLS := He.int_ok X G (cd.fact 43 (f := .int "MOST_CELLS" 30) rfl)
    c_MOST_FORCED := He.int_ok X G (cd.fact 44 (f := .int "MOST_FORCED" 16) rfl)
    c_MOST_FREE := He.int_ok X G (cd.fact 45 (f := .int "MOST_FREE" 10) rfl)
    c_MOST_LINES := He.int_ok X G (cd.fact 46 (f := .int "MOST_LINES" 30) rfl)
    c_MOST_PAIRED := He.int_ok X G (cd.fact 47 (f := .int "MOST_PAIRED" 12) rfl)
    c_MOST_SIDE := He.int_ok X G (cd.fact 48 (f := .int "MOST_SIDE" 12) rfl) }
end K01
open PySem PySem.W PySem.Calls PyProof.Rows
set_option maxHeartbeats 0 in
theorem K01.holds_of (pure_law : ∀ ns : List Int, ns.length ≤ 63 → ∃ h', K01.m_law [.arg (ns.map TL.T.int)] [] = .ok (.bl true) h') : PySem.Challenge.rw_pairheld_k01_constants_and_errors.Holds := by
  w_on; o_law
  refine HandSHeadRun.head_any (r := OpenLaw.row PySem.Challenge.rw_pairheld_k01_constants_and_errors) (q := view (OpenLaw.row PySem.Challenge.rw_pairheld_k01_constants_and_errors).prog [37]) (H := K01.hk) (ob := K01.ob) (M := 24000) (loose := K01.lo) (d := HandSHeadRun.topDef (OpenLaw.row PySem.Challenge.rw_pairheld_k01_constants_and_errors).prog 37) (kwd := []) K01.ob_eq
    (by kernel_rfl) (fun s => by kernel_rfl) K01.run (by kernel_rfl) (by kernel_rfl) (by kernel_rfl) (by rfl) (by first | assumption | decide +kernel) (by decide +kernel) ⟨rfl, rfl, rfl, rfl, rfl, by decide +kernel⟩ ?hw ?hc
  case hw => w_witness2
  case hc =>
    refine TL.walkQ (l := PySem.Challenge.rw_pairheld_k01_constants_and_errors) (n := 63) (k := 5) (x := "_law_script") rfl (by decide) (by kernel_rfl) ⟨rfl, by decide, by decide⟩ ?_
    rintro w mg fa h ⟨K, KX, c⟩ G named
    have e1 : (HandSHeadRun.topDef (OpenLaw.row PySem.Challenge.rw_pairheld_k01_constants_and_errors).prog 37).name = ("law" : PySem.Str) := by kernel_rfl
    have g := K01.gs KX G c
    have e2 : fa = He.ga K "law" := by
      rw [e1, g.f_law] at named
      cases named
      rfl
    subst e2
    have b := L2.FunD.bindsA (ps := ["_law_script"]) g.F_law fun _ _ _ _ _ _ us hl => match us, hl with | [_], _ => rfl
    exact ⟨K, _, K01.wd w K, K01.m_law, KX, ⟨rfl, fun _ => rfl⟩, fun s v => b s [v] rfl, pure_law, fun base _ _ => K01.ok_law g⟩
theorem PySem.Challenge.cw_pairheld_k01_constants_and_errors_holds : PySem.Challenge.rw_pairheld_k01_constants_and_errors.Holds := by
  exact K01.holds_of K01.pure_law
